import PyProof.Rows.All
import Wide.All
import OpenK.AllK
import Wide.FinOn
import PyProof.EqAt
import PyProof.EqKinds
import PyProof.TupleCall
import HandS.ForMost
import HandS.ForExc
import HandS.Walk
import HandS.Wide
import HandS.CallSlots
import HandS.WideBits
import HandS.TupAny
import HandS.IsInst
import HandS.Strs
import HandS.EndBits
import HandS.Zip
import HandS.Rev
import HandS.RevRange
import HandS.Style
import HandS.Replace
import HandS.ExcIs
import HandS.HotCalls
import PyProof.StrOps2
import HandS.More
import PySem.Challenge.RW_oddsnet_k20_ways_in_counting_order
set_option Elab.async false
set_option linter.all false
set_option maxRecDepth 100000
set_option maxHeartbeats 4000000
namespace L2.VL
open PySem PySem.Spec PyProof.Rows

/-! ## data and answers -/
inductive D where
  | non | bl (b : Bool) | int (i : Int) | str (x : Str) | tup (ds : List D) | lst (ds : List D) | dic (kvs : List (Key × D))
inductive R (α : Type) where
  | ok (a : α) | ex (c : Str) | bad
def R.bind {α β : Type} : R α → (α → R β) → R β
  | .ok a, f => f a
  | .ex c, _ => .ex c
  | .bad, _ => .bad
@[simp] theorem R.bind_ok {α β : Type} (a : α) (f : α → R β) : (R.ok a).bind f = f a := rfl
@[simp] theorem R.bind_ex {α β : Type} (c : Str) (f : α → R β) : (R.ex c : R α).bind f = .ex c := rfl
@[simp] theorem R.bind_bad {α β : Type} (f : α → R β) : (R.bad : R α).bind f = .bad := rfl

/-- a tuple of one's own making: its object is known, and bears no dict -/
def TupAt (B : Hp) (a : Addr) (vs : List V) : Prop := ∃ o : Obj, B a = some (.frz o (.tup vs)) ∧ o.dict = none
theorem TupAt.rd {B : Hp} {a : Addr} {vs : List V} (h : TupAt B a vs) : Rd B a (.tup vs) := by
  obtain ⟨o, h, _⟩ := h
  exact .inr ⟨o, h⟩
theorem TupAt.mono {B B' : Hp} {a : Addr} {vs : List V} (h : TupAt B a vs) (s : Same B B') : TupAt B' a vs := by
  obtain ⟨o, h, hd⟩ := h
  exact ⟨o, s _ _ h, hd⟩
abbrev tupO (us : List Value) : Obj := { cls := .type "tuple", data := .seq us.toArray }
theorem inv_tup {X : Cx} {pins : List (Addr × Obj)} {sg : St} {H : Hp} {s : Shared} {vs : List V} {us : List Value} (I : Inv X pins sg H s) (r : Vals vs us) (hz : vs.length ≤ sizeLine) :
    Inv X pins sg (upd H s.heap.objs.size (.frz (tupO us) (.tup vs))) { s with heap := s.heap.push (tupO us) } :=
  I.laid (t' := s.toks) (fun _ _ q => Heap.get?_push_of_some _ q) (Nat.le_refl _) ⟨Heap.get?_push_size _ rfl, hz, us, r, IsTup.new _ _⟩
def tTupF (t : TA) : TE := fun sg H Q => t sg H fun xs H1 => xs.length ≤ sizeLine ∧ ∀ p (o : Obj), H1 p = none → o.dict = none → Q (.ref p) (upd H1 p (.frz o (.tup xs)))
theorem pe_tupF {X : Cx} {es : List Expr} {t : TA} {pos : Pos} {x1} (h : PA X es t) : PE X (.Tuple es x1 pos) (tTupF t) :=
  ⟨fun pins s sg H Q I hq => wpAny_Tuple_spliced (thn (h.run pos pins s sg H _ I hq) fun us s1 hh => by
    obtain ⟨xs, H1, I1, r, z, q⟩ := hh
    exact ⟨by rw [← r.length]; exact z, .ref s1.heap.objs.size, _, inv_tup I1 r z, rfl, q _ _ (I1.hok.fresh (Nat.le_refl _)) rfl⟩)⟩
theorem call_tupF {X : Cx} : CallR X (.type "tuple") (fun xs H Q => ∃ p ys, xs = [.ref p] ∧ ((SqL X.K H p ys ∧ ∀ l (o : Obj), H l = none → o.dict = none → Q (.ref l) (upd H l (.frz o (.tup ys)))) ∨ (SqT X.K H p ys ∧ Q (.ref p) H))) := by
  intro pins s sg H xs us Q I rs hh
  obtain ⟨p, ys, rfl, hh⟩ := hh
  obtain ⟨u, rfl, ru⟩ := vals1 rs
  cases ru
  rcases hh with ⟨hq, q⟩ | ⟨hq, q⟩
  · obtain ⟨its, rv, pl, hz⟩ := I.list hq
    have hn := rv.length
    refine call_tuple_list pl.isList (fun g' kp => ?_) (by simp only [List.size_toArray] <;> omega)
    have J := I.kept (h' := g') (t' := s.toks) kp
    exact ⟨.ref g'.objs.size, _, inv_tup J rv hz, rfl, q _ _ (J.hok.fresh (Nat.le_refl _)) rfl⟩
  · obtain ⟨its, _, pl, _⟩ := I.tuple hq
    exact call_tuple_same pl ⟨.ref p, H, I, rfl, q⟩
def rCatF (K : PySem.W.Frag) : R2 := fun x y H Q => ∃ a b xs ys, x = .ref a ∧ y = .ref b ∧ SqT K H a xs ∧ SqT K H b ys ∧ xs.length + ys.length ≤ sizeLine ∧
  (xs = [] → Q (.ref b) H) ∧ (xs ≠ [] → ys = [] → Q (.ref a) H) ∧ (xs ≠ [] → ys ≠ [] → ∀ p (o : Obj), H p = none → o.dict = none → Q (.ref p) (upd H p (.frz o (.tup (xs ++ ys)))))
theorem op_catF {X : Cx} : OpR X (binaryOp .Add) (rCatF X.K) := by
  intro pins s sg H x y v u Q I rx ry hh
  obtain ⟨a, b, xs, ys, rfl, rfl, ha, hb, hz, q0, q1, q2⟩ := hh
  cases rx
  cases ry
  obtain ⟨ia, ra, pa, _⟩ := I.tuple ha
  obtain ⟨ib, rb, pb, _⟩ := I.tuple hb
  by_cases hx : xs = []
  · subst hx
    cases ra
    exact cat_tup0 pa pb ⟨.ref b, H, I, rfl, q0 rfl⟩
  · refine HT.cat_tup pa pb (fun z => hx (ra.nil_iff.mp z)) (fun z => ⟨.ref a, H, I, rfl, q1 hx (rb.nil_iff.mp z)⟩) (fun z => ?_) (by rw [← ra.length, ← rb.length]; exact hz)
    exact ⟨.ref s.heap.objs.size, _, inv_tup I (ra.append rb) (by rw [List.length_append]; exact hz), rfl, q2 hx (fun w => z (rb.nil_iff.mpr w)) _ _ (I.hok.fresh (Nat.le_refl _)) rfl⟩
theorem call_divmodF {X : Cx} : CallR X (.builtin "divmod") (fun xs H Q => ∃ i j, xs = [.int i, .int j] ∧ CDivP i j ∧ ∀ p (o : Obj), H p = none → o.dict = none → Q (.ref p) (upd H p (.frz o (.tup [.int (i / j), .int (i % j)])))) := by
  intro pins s sg H xs us Q I rs hh
  obtain ⟨i, j, rfl, ⟨h1, h2⟩, q⟩ := hh
  obtain ⟨u, u', rfl, ⟨t, rfl⟩, ⟨t', rfl⟩⟩ := vals2 rs
  refine divmod_int (by omega) ?_ (.inl h2)
  rw [Int.fdiv_eq_ediv_of_nonneg i (by omega), Int.fmod_eq_emod_of_nonneg i (by omega)]
  have hz : [V.int (i / j), V.int (i % j)].length ≤ sizeLine := by
    show 2 ≤ sizeLine
    decide
  have J := inv_tup (vs := [.int (i / j), .int (i % j)]) (us := [.int (i / j) s.toks, .int (i % j) (s.toks + 1)]) I (.cons ⟨_, rfl⟩ (.cons ⟨_, rfl⟩ .nil)) hz
  exact ⟨.ref s.heap.objs.size, _, J.tok _, rfl, q _ _ (I.hok.fresh (Nat.le_refl _)) rfl⟩
/-! ## how a heap bears data -/
mutual
inductive Rep (c : Bool) (K : PySem.W.Frag) (B : Hp) : V → D → Prop
  | non : Rep c K B .non .non
  | bl (b : Bool) : Rep c K B (.bl b) (.bl b)
  | int (i : Int) : Rep c K B (.int i) (.int i)
  | str (x : Str) : Rep c K B (.str x) (.str x)
  | lst {a : Addr} {vs : List V} {ds : List D} : Rd B a (.lst vs) → Reps c K B vs ds → Rep c K B (.ref a) (.lst ds)
  | kls {a : Addr} {vs : List V} {ds : List D} : c = true → SqL K B a vs → Reps c K B vs ds → Rep c K B (.ref a) (.lst ds)
  | tup {a : Addr} {vs : List V} {ds : List D} : TupAt B a vs → Reps c K B vs ds → Rep c K B (.ref a) (.tup ds)
  | dic {a : Addr} {kvs : List (Key × V)} {kds : List (Key × D)} : (∃ o, B a = some (.frz o (.dK kvs))) → RepKs c K B kvs kds → Rep c K B (.ref a) (.dic kds)
  | dko {a : Addr} {kvs : List (Key × V)} {kds : List (Key × D)} : c = true → Rd B a (.dK kvs) → RepKs c K B kvs kds → Rep c K B (.ref a) (.dic kds)
inductive Reps (c : Bool) (K : PySem.W.Frag) (B : Hp) : List V → List D → Prop
  | nil : Reps c K B [] []
  | cons {v : V} {vs : List V} {d : D} {ds : List D} : Rep c K B v d → Reps c K B vs ds → Reps c K B (v :: vs) (d :: ds)
inductive RepKs (c : Bool) (K : PySem.W.Frag) (B : Hp) : List (Key × V) → List (Key × D) → Prop
  | nil : RepKs c K B [] []
  | cons {k : Key} {v : V} {kvs : List (Key × V)} {d : D} {kds : List (Key × D)} : Rep c K B v d → RepKs c K B kvs kds → RepKs c K B ((k, v) :: kvs) ((k, d) :: kds)
end

theorem same_sqT {K : PySem.W.Frag} {H H' : Hp} {a : Addr} {xs : List V} (e : Same H H') (h : SqT K H a xs) : SqT K H' a xs := by
  rcases h with (h | ⟨o, h⟩) | h
  · exact .inl (.inl (e _ _ h))
  · exact .inl (.inr ⟨o, e _ _ h⟩)
  · exact .inr h
theorem same_rd {H H' : Hp} {a : Addr} {u : HO} (e : Same H H') (h : Rd H a u) : Rd H' a u := by
  rcases h with h | ⟨o, h⟩
  · exact .inl (e _ _ h)
  · exact .inr ⟨o, e _ _ h⟩
mutual
theorem Rep.mono {c : Bool} {K : PySem.W.Frag} {B B' : Hp} (s : Same B B') : ∀ {v : V} {d : D}, Rep c K B v d → Rep c K B' v d
  | _, _, .non => .non
  | _, _, .bl b => .bl b
  | _, _, .int i => .int i
  | _, _, .str x => .str x
  | _, _, .lst h r => .lst (same_rd s h) (Reps.mono s r)
  | _, _, .kls hc h r => .kls hc (s.seq h) (Reps.mono s r)
  | _, _, .tup h r => .tup (h.mono s) (Reps.mono s r)
  | _, _, .dic h r => .dic (let ⟨o, z⟩ := h; ⟨o, s _ _ z⟩) (RepKs.mono s r)
  | _, _, .dko hc h r => .dko hc (same_rd s h) (RepKs.mono s r)
theorem Reps.mono {c : Bool} {K : PySem.W.Frag} {B B' : Hp} (s : Same B B') : ∀ {vs : List V} {ds : List D}, Reps c K B vs ds → Reps c K B' vs ds
  | _, _, .nil => .nil
  | _, _, .cons h r => .cons (Rep.mono s h) (Reps.mono s r)
theorem RepKs.mono {c : Bool} {K : PySem.W.Frag} {B B' : Hp} (s : Same B B') : ∀ {vs : List (Key × V)} {ds : List (Key × D)}, RepKs c K B vs ds → RepKs c K B' vs ds
  | _, _, .nil => .nil
  | _, _, .cons h r => .cons (Rep.mono s h) (RepKs.mono s r)
end
mutual
theorem Rep.wide {K : PySem.W.Frag} {B : Hp} : ∀ {v : V} {d : D}, Rep false K B v d → Rep true K B v d
  | _, _, .non => .non
  | _, _, .bl b => .bl b
  | _, _, .int i => .int i
  | _, _, .str x => .str x
  | _, _, .lst h r => .lst h (Reps.wide r)
  | _, _, .tup h r => .tup h (Reps.wide r)
  | _, _, .dic h r => .dic h (RepKs.wide r)
theorem Reps.wide {K : PySem.W.Frag} {B : Hp} : ∀ {vs : List V} {ds : List D}, Reps false K B vs ds → Reps true K B vs ds
  | _, _, .nil => .nil
  | _, _, .cons h r => .cons (Rep.wide h) (Reps.wide r)
theorem RepKs.wide {K : PySem.W.Frag} {B : Hp} : ∀ {vs : List (Key × V)} {ds : List (Key × D)}, RepKs false K B vs ds → RepKs true K B vs ds
  | _, _, .nil => .nil
  | _, _, .cons h r => .cons (Rep.wide h) (RepKs.wide r)
end
theorem Rep.sq {c : Bool} {K : PySem.W.Frag} {B : Hp} {v : V} {ds : List D} (r : Rep c K B v (.lst ds)) : ∃ a vs, v = .ref a ∧ SqL K B a vs ∧ Reps c K B vs ds := by
  cases r with
  | lst h q => exact ⟨_, _, rfl, .inl h, q⟩
  | kls _ h q => exact ⟨_, _, rfl, h, q⟩
theorem Rep.rd {K : PySem.W.Frag} {B : Hp} {v : V} {ds : List D} (r : Rep false K B v (.lst ds)) : ∃ a vs, v = .ref a ∧ Rd B a (.lst vs) ∧ Reps false K B vs ds := by
  cases r with
  | lst h q => exact ⟨_, _, rfl, h, q⟩
  | kls z _ _ => cases z
section
variable {c : Bool} {K : PySem.W.Frag} {B B' : Hp}
theorem Reps.length : ∀ {vs : List V} {ds : List D}, Reps c K B vs ds → vs.length = ds.length
  | _, _, .nil => rfl
  | _, _, .cons _ r => congrArg (· + 1) r.length
theorem Reps.get : ∀ {vs : List V} {ds : List D} {i : Nat} {d : D}, Reps c K B vs ds → ds[i]? = some d → ∃ v, vs[i]? = some v ∧ Rep c K B v d
  | _, _, _, _, .nil, h => by simp at h
  | _, _, 0, _, .cons q _, h => by
    have e := Option.some.inj (show some _ = some _ from h)
    subst e
    exact ⟨_, rfl, q⟩
  | _, _, i + 1, _, .cons _ r, h => Reps.get (i := i) r (by simpa using h)
theorem Reps.getV : ∀ {vs : List V} {ds : List D} {i : Nat} {v : V}, Reps c K B vs ds → vs[i]? = some v → ∃ d, ds[i]? = some d ∧ Rep c K B v d
  | _, _, _, _, .nil, h => by simp at h
  | _, _, 0, _, .cons q _, h => by
    have e := Option.some.inj (show some _ = some _ from h)
    subst e
    exact ⟨_, rfl, q⟩
  | _, _, i + 1, _, .cons _ r, h => Reps.getV (i := i) r (by simpa using h)
theorem Reps.append : ∀ {vs us : List V} {ds es : List D}, Reps c K B vs ds → Reps c K B us es → Reps c K B (vs ++ us) (ds ++ es)
  | _, _, _, _, .nil, s => s
  | _, _, _, _, .cons q r, s => .cons q (Reps.append r s)
theorem Reps.take : ∀ {vs : List V} {ds : List D} (n : Nat), Reps c K B vs ds → Reps c K B (vs.take n) (ds.take n)
  | _, _, 0, _ => .nil
  | _, _, _ + 1, .nil => .nil
  | _, _, n + 1, .cons q r => .cons q (Reps.take n r)
theorem Reps.drop : ∀ {vs : List V} {ds : List D} (n : Nat), Reps c K B vs ds → Reps c K B (vs.drop n) (ds.drop n)
  | _, _, 0, r => r
  | _, _, _ + 1, .nil => .nil
  | _, _, n + 1, .cons _ r => Reps.drop n r
theorem Reps.set {v : V} {d : D} (h : Rep c K B v d) : ∀ {vs : List V} {ds : List D} (n : Nat), Reps c K B vs ds → Reps c K B (vs.set n v) (ds.set n d)
  | _, _, _, .nil => .nil
  | _, _, 0, .cons _ r => .cons h r
  | _, _, n + 1, .cons q r => .cons q (Reps.set h n r)
theorem Reps.reverse : ∀ {vs : List V} {ds : List D}, Reps c K B vs ds → Reps c K B vs.reverse ds.reverse
  | _, _, .nil => .nil
  | _, _, .cons q r => by
    rw [List.reverse_cons, List.reverse_cons]
    exact (Reps.reverse r).append (.cons q .nil)
end

/-! ## two heaps: what stays for good (B), all that is tracked (H) -/
structure Ext (B H B' H' : Hp) : Prop where
  b : Same B B'
  h : Same H H'
  s : Same B' H'
  n : ∀ p, H p ≠ none → B' p = B p
theorem Ext.refl {B H : Hp} (s : Same B H) : Ext B H B H := ⟨Same.refl _, Same.refl _, s, fun _ _ => rfl⟩
theorem Ext.trans {B H B1 H1 B2 H2 : Hp} (x : Ext B H B1 H1) (y : Ext B1 H1 B2 H2) : Ext B H B2 H2 :=
  ⟨x.b.trans y.b, x.h.trans y.h, y.s, fun p hp => by
    have e1 := x.n p hp
    have e2 : H1 p ≠ none := by
      cases e : H p with
      | none => exact absurd e hp
      | some o => rw [x.h p o e]; exact fun z => by cases z
    rw [y.n p e2, e1]⟩
theorem same_upd {H : Hp} {p : Addr} {o : HO} (h : H p = none) : Same H (upd H p o) := fun b x e => by
  rw [upd_ne (ne_of_none e h)]
  exact e
theorem same_upd2 {B H : Hp} {p : Addr} {o : HO} (s : Same B H) : Same (upd B p o) (upd H p o) := fun b x e => by
  by_cases hb : b = p
  · subst hb
    rw [upd_same] at e ⊢
    exact e
  · rw [upd_ne hb] at e ⊢
    exact s b x e
theorem same_updH {B H : Hp} {p : Addr} {o : HO} (s : Same B H) (h : B p = none) : Same B (upd H p o) := fun b x e => by
  rw [upd_ne (ne_of_none e h)]
  exact s b x e
/-- a new thing that stays -/
theorem Ext.newB {B H : Hp} {p : Addr} {o : HO} (s : Same B H) (h : H p = none) : Ext B H (upd B p o) (upd H p o) :=
  ⟨same_upd (s.free h), same_upd h, same_upd2 s, fun q hq => by
    rw [upd_ne]
    intro z
    subst z
    exact hq h⟩
/-- a new thing that may be changed -/
theorem Ext.newH {B H : Hp} {p : Addr} {o : HO} (s : Same B H) (h : H p = none) : Ext B H B (upd H p o) :=
  ⟨Same.refl _, same_upd h, same_updH s (s.free h), fun q hq => rfl⟩

/-- a list or dict of one's own at p; what it holds stays -/
def Own (K : PySem.W.Frag) (B H : Hp) (p : Addr) : D → Prop
  | .lst ds => ∃ vs, H p = some (.lst vs) ∧ Reps false K B vs ds
  | .dic kds => ∃ kvs, H p = some (.dK kvs) ∧ RepKs false K B kvs kds
  | _ => False
theorem Own.mono {K : PySem.W.Frag} {B H B' H' : Hp} {p : Addr} : ∀ {d : D}, Own K B H p d → Same B B' → Same H H' → Own K B' H' p d
  | .lst _, ⟨vs, h, r⟩, sb, sh => ⟨vs, sh _ _ h, r.mono sb⟩
  | .dic _, ⟨vs, h, r⟩, sb, sh => ⟨vs, sh _ _ h, r.mono sb⟩
theorem Own.isSome {K : PySem.W.Frag} {B H : Hp} {p : Addr} : ∀ {d : D}, Own K B H p d → H p ≠ none
  | .lst _, ⟨vs, h, r⟩ => by rw [h]; exact fun z => by cases z
  | .dic _, ⟨vs, h, r⟩ => by rw [h]; exact fun z => by cases z
/-- a list is made to stay -/
theorem Own.freeze {K : PySem.W.Frag} {B H : Hp} {p : Addr} (s : Same B H) (hb : B p = none) {ds : List D} : Own K B H p (.lst ds) → ∃ o, H p = some o ∧ Same (upd B p o) H ∧ Same B (upd B p o) ∧ Rep false K (upd B p o) (.ref p) (.lst ds)
  | ⟨vs, h, r⟩ => ⟨_, h, fun b x e => by
      by_cases z : b = p
      · subst z
        rw [upd_same] at e
        rw [h, e]
      · rw [upd_ne z] at e
        exact s _ _ e, same_upd hb, .lst (.inl upd_same) (r.mono (same_upd hb))⟩
/-- it is locked, and stays -/
theorem Own.lock {K : PySem.W.Frag} {B H : Hp} {p : Addr} (s : Same B H) (hb : B p = none) : ∀ {d : D}, Own K B H p d → ∃ u, H p = some u ∧ Mut (some u) ∧ ∀ od, Same (upd B p (.frz od u)) (upd H p (.frz od u)) ∧ Same B (upd B p (.frz od u)) ∧ Rep false K (upd B p (.frz od u)) (.ref p) d
  | .lst _, ⟨vs, h, r⟩ => ⟨_, h, trivial, fun od => ⟨same_upd2 s, same_upd hb, .lst (.inr ⟨od, upd_same⟩) (r.mono (same_upd hb))⟩⟩
  | .dic _, ⟨vs, h, r⟩ => ⟨_, h, trivial, fun od => ⟨same_upd2 s, same_upd hb, .dic ⟨od, upd_same⟩ (r.mono (same_upd hb))⟩⟩
theorem Own.rep {K : PySem.W.Frag} {B H : Hp} {p : Addr} (s : Same B H) : ∀ {d : D}, Own K B H p d → Rep true K H (.ref p) d
  | .lst _, ⟨vs, h, r⟩ => .lst (.inl h) (Reps.wide (r.mono s))
  | .dic _, ⟨vs, h, r⟩ => .dko rfl (.inl h) (RepKs.wide (r.mono s))

/-! ## slots -/
inductive Md where
  | un | im | ar | ow | ex (a : Addr) (c : Str)
def Slot (K : PySem.W.Frag) (H0 B H : Hp) : Md → Option V → D → Prop
  | .un, _, _ => True
  | .im, some v, d => Rep false K B v d
  | .ar, some v, d => Rep true K H0 v d
  | .ow, some (.ref p), d => H0 p = none ∧ B p = none ∧ Own K B H p d
  | .ex a c, some v, d => v = .ref a ∧ d = .str c
  | _, _, _ => False
def Slots (K : PySem.W.Frag) (H0 B H : Hp) : List Md → List (Option V) → List D → Prop
  | [], [], [] => True
  | m :: ms, x :: xs, d :: ds => Slot K H0 B H m x d ∧ Slots K H0 B H ms xs ds
  | _, _, _ => False
structure Sta (K : PySem.W.Frag) (G : List Md) (B0 H0 : Hp) (sg : St) (e : List D) (B H : Hp) : Prop where
  ext : Ext B0 H0 B H
  sl : Slots K H0 B H G sg e
  dis : ∀ (i j : Nat) (p : Addr), G[i]? = some Md.ow → G[j]? = some Md.ow → sg[i]? = some (some (V.ref p)) → sg[j]? = some (some (V.ref p)) → i = j
section
variable {K : PySem.W.Frag} {H0 B0 B H B' H' : Hp} {G : List Md} {sg : St} {e : List D}
theorem Slot.mono (sb : Same B B') (sh : Same H H') (hn : ∀ p, H p ≠ none → B' p = B p) : ∀ {m : Md} {x : Option V} {d : D}, Slot K H0 B H m x d → Slot K H0 B' H' m x d
  | .un, _, _, _ => trivial
  | .im, some _, _, h => Rep.mono sb h
  | .ar, some _, _, h => h
  | .ow, some (.ref p), _, ⟨h1, h2, h3⟩ => ⟨h1, (hn p h3.isSome).trans h2, h3.mono sb sh⟩
  | .ex _ _, some _, _, h => h
theorem Slots.mono (sb : Same B B') (sh : Same H H') (hn : ∀ p, H p ≠ none → B' p = B p) : ∀ {ms : List Md} {xs : List (Option V)} {ds : List D}, Slots K H0 B H ms xs ds → Slots K H0 B' H' ms xs ds
  | [], [], [], _ => trivial
  | _ :: _, _ :: _, _ :: _, ⟨h, r⟩ => ⟨Slot.mono sb sh hn h, Slots.mono sb sh hn r⟩
theorem Sta.later (s : Sta K G B0 H0 sg e B H) (x : Ext B H B' H') : Sta K G B0 H0 sg e B' H' := ⟨s.ext.trans x, Slots.mono x.b x.h x.n s.sl, s.dis⟩
theorem Slots.get : ∀ {ms : List Md} {xs : List (Option V)} {ds : List D} {i : Nat} {m : Md}, Slots K H0 B H ms xs ds → ms[i]? = some m → ∃ x d, xs[i]? = some x ∧ ds[i]? = some d ∧ Slot K H0 B H m x d
  | [], [], [], _, _, _, h => by simp at h
  | _ :: _, _ :: _, _ :: _, 0, _, ⟨q, _⟩, h => by
    have e := Option.some.inj (show some _ = some _ from h)
    subst e
    exact ⟨_, _, rfl, rfl, q⟩
  | _ :: _, _ :: _, _ :: _, i + 1, _, ⟨_, r⟩, h => by
    obtain ⟨x, d, h1, h2, h3⟩ := Slots.get (i := i) r (by simpa using h)
    exact ⟨x, d, by simpa using h1, by simpa using h2, h3⟩
theorem Slots.set {m : Md} {x : Option V} {d : D} (h : Slot K H0 B H m x d) : ∀ {ms : List Md} {xs : List (Option V)} {ds : List D} (i : Nat), Slots K H0 B H ms xs ds → Slots K H0 B H (ms.set i m) (xs.set i x) (ds.set i d)
  | [], [], [], _, _ => trivial
  | _ :: _, _ :: _, _ :: _, 0, ⟨_, r⟩ => ⟨h, r⟩
  | _ :: _, _ :: _, _ :: _, i + 1, ⟨q, r⟩ => ⟨q, Slots.set h i r⟩
theorem Slots.len : ∀ {ms : List Md} {xs : List (Option V)} {ds : List D}, Slots K H0 B H ms xs ds → xs.length = ms.length ∧ ds.length = ms.length
  | [], [], [], _ => ⟨rfl, rfl⟩
  | _ :: _, _ :: _, _ :: _, ⟨_, r⟩ => ⟨congrArg (· + 1) r.len.1, congrArg (· + 1) r.len.2⟩
end
end L2.VL
set_option Elab.async false
set_option linter.all false
set_option maxRecDepth 100000
set_option maxHeartbeats 4000000
namespace L2.VL
open PySem PySem.Spec PyProof.Rows

/-! ## what an expression is worth -/
inductive Tg where
  | im | ar | lo | fr | oc
def RepT (K : PySem.W.Frag) (H0 H B' H' : Hp) : Tg → V → D → Prop
  | .im, v, d => Rep false K B' v d
  | .ar, v, d => Rep true K H0 v d
  | .lo, v, d => Rep true K H' v d
  | .fr, v, d => ∃ p, v = .ref p ∧ H p = none ∧ B' p = none ∧ Own K B' H' p d
  | .oc, v, d => ∃ p, v = .ref p ∧ Own K B' H' p d
section
variable {K : PySem.W.Frag} {H0 H H1 B1 B2 H2 : Hp} {m : Tg} {v : V} {d : D}
theorem RepT.later (r : RepT K H0 H B1 H1 m v d) (x : Ext B1 H1 B2 H2) : RepT K H0 H B2 H2 m v d := by
  cases m with
  | im => exact Rep.mono x.b r
  | ar => exact r
  | lo => exact Rep.mono x.h r
  | fr =>
    obtain ⟨p, h1, h2, h3, h4⟩ := r
    exact ⟨p, h1, h2, (x.n p h4.isSome).trans h3, h4.mono x.b x.h⟩
  | oc =>
    obtain ⟨p, h1, h4⟩ := r
    exact ⟨p, h1, h4.mono x.b x.h⟩
theorem RepT.earlier (r : RepT K H0 H1 B2 H2 m v d) (x : Same H H1) : RepT K H0 H B2 H2 m v d := by
  cases m with
  | im => exact r
  | ar => exact r
  | lo => exact r
  | fr =>
    obtain ⟨p, h1, h2, h3, h4⟩ := r
    exact ⟨p, h1, x.free h2, h3, h4⟩
  | oc => exact r
theorem RepT.all (r : RepT K H0 H B2 H2 m v d) (s : Same B2 H2) (s0 : Same H0 H2) : Rep true K H2 v d := by
  cases m with
  | im => exact (Rep.mono s r).wide
  | ar => exact Rep.mono s0 r
  | lo => exact r
  | fr =>
    obtain ⟨p, h1, h2, h3, h4⟩ := r
    subst h1
    exact h4.rep s
  | oc =>
    obtain ⟨p, h1, h4⟩ := r
    subst h1
    exact h4.rep s
end
def KE (K : PySem.W.Frag) (mg : Str → Option Value) (W : WX) (sg : St) (H0 B H : Hp) (Q : VK) (m : Tg) : R D → Prop
  | .ok d => ∀ B' H' v, Ext B H B' H' → RepT K H0 H B' H' m v d → Q v H'
  | .ex c => ∀ B' H' a, Ext B H B' H' → mg c = some (.ref a) → W (.ref a) none sg H'
  | .bad => False
def vE (K : PySem.W.Frag) (mg : Str → Option Value) (G : List Md) (W : WX) (m : Tg) (f : List D → R D) : TE := fun sg H Q =>
  ∃ B0 H0 B e, Sta K G B0 H0 sg e B H ∧ KE K mg W sg H0 B H Q m (f e)
def KT (mg : Str → Option Value) (W : WX) (sg : St) (B H : Hp) (Q : Bool → Hp → Prop) : R Bool → Prop
  | .ok b => ∀ B' H', Ext B H B' H' → Q b H'
  | .ex c => ∀ B' H' a, Ext B H B' H' → mg c = some (.ref a) → W (.ref a) none sg H'
  | .bad => False
def vT (K : PySem.W.Frag) (mg : Str → Option Value) (G : List Md) (W : WX) (f : List D → R Bool) : TT := fun sg H Q =>
  ∃ B0 H0 B e, Sta K G B0 H0 sg e B H ∧ KT mg W sg B H Q (f e)
def RepTs (K : PySem.W.Frag) (H0 H B' H' : Hp) : List Tg → List V → List D → Prop
  | [], [], [] => True
  | m :: ms, v :: vs, d :: ds => RepT K H0 H B' H' m v d ∧ RepTs K H0 H B' H' ms vs ds
  | _, _, _ => False
def KA (K : PySem.W.Frag) (mg : Str → Option Value) (W : WX) (sg : St) (H0 B H : Hp) (Q : List V → Hp → Prop) (ms : List Tg) : R (List D) → Prop
  | .ok ds => ∀ B' H' vs, Ext B H B' H' → RepTs K H0 H B' H' ms vs ds → Q vs H'
  | .ex c => ∀ B' H' a, Ext B H B' H' → mg c = some (.ref a) → W (.ref a) none sg H'
  | .bad => False
def vA (K : PySem.W.Frag) (mg : Str → Option Value) (G : List Md) (W : WX) (ms : List Tg) (f : List D → R (List D)) : TA := fun sg H Q =>
  ∃ B0 H0 B e, Sta K G B0 H0 sg e B H ∧ KA K mg W sg H0 B H Q ms (f e)
theorem RepTs.later {K : PySem.W.Frag} {H0 H H1 B1 B2 H2 : Hp} (x : Ext B1 H1 B2 H2) : ∀ {ms : List Tg} {vs : List V} {ds : List D}, RepTs K H0 H B1 H1 ms vs ds → RepTs K H0 H B2 H2 ms vs ds
  | [], [], [], _ => trivial
  | _ :: _, _ :: _, _ :: _, ⟨h, r⟩ => ⟨h.later x, RepTs.later x r⟩
theorem RepTs.earlier {K : PySem.W.Frag} {H0 H H1 B2 H2 : Hp} (x : Same H H1) : ∀ {ms : List Tg} {vs : List V} {ds : List D}, RepTs K H0 H1 B2 H2 ms vs ds → RepTs K H0 H B2 H2 ms vs ds
  | [], [], [], _ => trivial
  | _ :: _, _ :: _, _ :: _, ⟨h, r⟩ => ⟨h.earlier x, RepTs.earlier x r⟩

theorem pe_weak {X : Cx} {e : Expr} {t t' : TE} (h : PE X e t) (w : ∀ sg H Q, t' sg H Q → t sg H Q) : PE X e t' := ⟨fun pins s σ H Q I q => h.run pins s σ H Q I (w σ H Q q)⟩
theorem pt_weak {X : Cx} {e : Expr} {t t' : TT} (h : PT X e t) (w : ∀ sg H Q, t' sg H Q → t sg H Q) : PT X e t' := ⟨fun pins s σ H Q I q => h.run pins s σ H Q I (w σ H Q q)⟩
theorem pw_weak {X : Cx} {e : Expr} {t t' : TT} (h : PW X e t) (w : ∀ sg H Q, t' sg H Q → t sg H Q) : PW X e t' := ⟨fun wh pins s σ H Q I q => h.run wh pins s σ H Q I (w σ H Q q)⟩
theorem pa_weak {X : Cx} {es : List Expr} {t t' : TA} (h : PA X es t) (w : ∀ sg H Q, t' sg H Q → t sg H Q) : PA X es t' := ⟨fun pos pins s σ H Q I q => h.run pos pins s σ H Q I (w σ H Q q)⟩
theorem ps_weak {X : Cx} {st : Stmt} {t t' : TS} (h : PS X st t) (w : ∀ D sg H, t' D sg H → t D sg H) : PS X st t' := ⟨fun pins s σ H D I q => h.run pins s σ H D I (w D σ H q)⟩
theorem pss_weak {X : Cx} {st : List Stmt} {t t' : TS} (h : PSs X st t) (w : ∀ D sg H, t' D sg H → t D sg H) : PSs X st t' := ⟨fun pins s σ H D I q => h.run pins s σ H D I (w D σ H q)⟩

section
variable {K : PySem.W.Frag} {mg : Str → Option Value} {G : List Md} {W : WX} {sg : St} {H H0 B0 B B1 H1 : Hp} {Q : VK} {e : List D}
/-- the same continuation, later -/
theorem KE.later {m : Tg} {r : R D} (k : KE K mg W sg H0 B H Q m r) (x : Ext B H B1 H1) : KE K mg W sg H0 B1 H1 Q m r := by
  cases r with
  | ok d => exact fun B' H' v y r => k B' H' v (x.trans y) (r.earlier x.h)
  | ex c => exact fun B' H' a y hm => k B' H' a (x.trans y) hm
  | bad => exact k
/-- one expression, then what hangs on it -/
theorem seq1 {α : Type} {fa : List D → R D} {kk : D → R α} {ma : Tg} {P : R α → Prop} (S : Sta K G B0 H0 sg e B H) {Rr : V → Hp → Prop}
    (h : P ((fa e).bind kk)) (hx : ∀ c, P (.ex c) → ∀ B' H' a, Ext B H B' H' → mg c = some (.ref a) → W (.ref a) none sg H') (hb : ¬ P .bad)
    (fin : ∀ B1 H1 x d, Ext B H B1 H1 → Sta K G B0 H0 sg e B1 H1 → RepT K H0 H B1 H1 ma x d → P (kk d) → Rr x H1) :
    vE K mg G W ma fa sg H Rr := by
  refine ⟨B0, H0, B, e, S, ?_⟩
  cases ea : fa e with
  | bad => rw [ea] at h; exact (hb h).elim
  | ex c => rw [ea] at h; exact hx c h
  | ok d =>
    rw [ea] at h
    exact fun B1 H1 x x1 r => fin B1 H1 x d x1 (S.later x1) r h
theorem KE.ex_of {m : Tg} {c : Str} (k : KE K mg W sg H0 B H Q m (.ex c)) : ∀ B' H' a, Ext B H B' H' → mg c = some (.ref a) → W (.ref a) none sg H' := k
end

/-! ### names, constants -/
def ofO {α : Type} : Option α → R α
  | some a => .ok a
  | none => .bad
@[simp] theorem ofO_some {α : Type} (a : α) : ofO (some a) = .ok a := rfl
@[simp] theorem ofO_none {α : Type} : ofO (none : Option α) = .bad := rfl
@[simp] def eVar (i : Nat) (e : List D) : R D := ofO e[i]?
@[simp] def eC (d : D) (_ : List D) : R D := .ok d
def flatD : D → Bool
  | .tup _ => false | .lst _ => false | .dic _ => false | _ => true
@[simp] theorem flatD_non : flatD .non = true := rfl
@[simp] theorem flatD_bl (b : Bool) : flatD (.bl b) = true := rfl
@[simp] theorem flatD_int (i : Int) : flatD (.int i) = true := rfl
@[simp] theorem flatD_str (x : Str) : flatD (.str x) = true := rfl
@[simp] def eFlat (f : List D → R D) (e : List D) : R D := (f e).bind fun d => if flatD d then .ok d else .bad
section
variable {X : Cx} {G : List Md} {W : WX} {pos : Pos} {e : Expr} {f : List D → R D} {m : Tg}
theorem flat_rep {c c' : Bool} {K : PySem.W.Frag} {B B' : Hp} {v : V} {d : D} (r : Rep c K B v d) (h : flatD d = true) : Rep c' K B' v d := by
  cases r with
  | non => exact .non
  | bl b => exact .bl b
  | int i => exact .int i
  | str x => exact .str x
  | lst _ _ => cases h
  | kls _ _ _ => cases h
  | tup _ _ => cases h
  | dic _ _ => cases h
  | dko _ _ _ => cases h
theorem ve_im {i : Nat} {x : Str} (hG : G[i]? = some .im := by rfl) (hN : X.N[i]? = some x := by rfl) (hv : Vis X.env.scope x := by first | exact Or.inl rfl | exact Or.inr (Or.inl rfl) | exact Or.inr (Or.inr rfl)) (hd : (x == ("__debug__" : Str)) = false := by decide)
    (hcd : (x == ("__classdict__" : Str)) = false := by decide) : PE X (.Name x pos) (vE X.K X.mg G W .im (eVar i)) := by
  refine pe_weak (pe_var hN hv hd hcd) fun sg H Q ⟨B0, H0, B, e, S, k⟩ => ?_
  obtain ⟨v, d, h1, h2, h3⟩ := S.sl.get hG
  unfold eVar at k
  rw [h2] at k
  cases v with
  | none => exact h3.elim
  | some v => exact ⟨v, h1, k B H v (.refl S.ext.s) h3⟩
theorem ve_ar {i : Nat} {x : Str} (hG : G[i]? = some .ar := by rfl) (hN : X.N[i]? = some x := by rfl) (hv : Vis X.env.scope x := by first | exact Or.inl rfl | exact Or.inr (Or.inl rfl) | exact Or.inr (Or.inr rfl)) (hd : (x == ("__debug__" : Str)) = false := by decide)
    (hcd : (x == ("__classdict__" : Str)) = false := by decide) : PE X (.Name x pos) (vE X.K X.mg G W .ar (eVar i)) := by
  refine pe_weak (pe_var hN hv hd hcd) fun sg H Q ⟨B0, H0, B, e, S, k⟩ => ?_
  obtain ⟨v, d, h1, h2, h3⟩ := S.sl.get hG
  unfold eVar at k
  rw [h2] at k
  cases v with
  | none => exact h3.elim
  | some v => exact ⟨v, h1, k B H v (.refl S.ext.s) h3⟩
theorem Slot.own {K : PySem.W.Frag} {H0 B H : Hp} {x : Option V} {d : D} (h : Slot K H0 B H .ow x d) : ∃ p, x = some (.ref p) ∧ H0 p = none ∧ B p = none ∧ Own K B H p d := by
  cases x with
  | none => exact h.elim
  | some v =>
    cases v with
    | ref p => exact ⟨p, rfl, h⟩
    | _ => exact h.elim
theorem ve_ow {i : Nat} {x : Str} (hG : G[i]? = some .ow := by rfl) (hN : X.N[i]? = some x := by rfl) (hv : Vis X.env.scope x := by first | exact Or.inl rfl | exact Or.inr (Or.inl rfl) | exact Or.inr (Or.inr rfl)) (hd : (x == ("__debug__" : Str)) = false := by decide)
    (hcd : (x == ("__classdict__" : Str)) = false := by decide) : PE X (.Name x pos) (vE X.K X.mg G W .oc (eVar i)) := by
  refine pe_weak (pe_var hN hv hd hcd) fun sg H Q ⟨B0, H0, B, e, S, k⟩ => ?_
  obtain ⟨v, d, h1, h2, h3⟩ := S.sl.get hG
  unfold eVar at k
  rw [h2] at k
  obtain ⟨p, rfl, _, hb, ho⟩ := h3.own
  exact ⟨.ref p, h1, k B H _ (.refl S.ext.s) ⟨p, rfl, ho⟩⟩
theorem ve_flatC {v : V} {d : D} (h : PE X e (tC v)) (hr : ∀ B, Rep false X.K B v d) : PE X e (vE X.K X.mg G W .im (eC d)) :=
  pe_weak h fun sg H Q ⟨B0, H0, B, e, S, k⟩ => k B H v (.refl S.ext.s) (hr _)
theorem ve_int {i : Int} {j} : PE X (.Constant (.int i) j pos) (vE X.K X.mg G W .im (eC (.int i))) := ve_flatC pe_int fun _ => .int i
theorem ve_bl {b : Bool} {j} : PE X (.Constant (.bool b) j pos) (vE X.K X.mg G W .im (eC (.bl b))) := ve_flatC pe_bl fun _ => .bl b
theorem ve_non {j} : PE X (.Constant .none j pos) (vE X.K X.mg G W .im (eC .non)) := ve_flatC pe_non fun _ => .non
theorem ve_str {x : Str} {j} : PE X (.Constant (.str x) j pos) (vE X.K X.mg G W .im (eC (.str x))) := ve_flatC pe_str fun _ => .str x
/-- a module's constant that is flat -/
theorem ve_glob {x : Str} {v : V} {d : D} {u : Value} (hg : Gl X x) (hm : X.mg x = some u) (r : RelV v u) (hr : ∀ B, Rep false X.K B v d) (hd : (x == ("__debug__" : Str)) = false := by decide) : PE X (.Name x pos) (vE X.K X.mg G W .im (eC d)) := ve_flatC (pe_glob hg hm r hd) hr
/-- weaker tags -/
theorem ve_lo (h : PE X e (vE X.K X.mg G W m f)) : PE X e (vE X.K X.mg G W .lo f) := by
  refine pe_weak h fun sg H Q ⟨B0, H0, B, e, S, k⟩ => ⟨B0, H0, B, e, S, ?_⟩
  cases ef : f e with
  | bad => rw [ef] at k; exact k
  | ex c => rw [ef] at k; exact k
  | ok d =>
    rw [ef] at k
    exact fun B' H' v x r => k B' H' v x (r.all x.s (S.ext.h.trans x.h))
/-- a new thing may be locked -/
theorem pe_ghost {t : TE} (h : PE X e t) : PE X e (fun sg H Q => t sg H fun v H1 => Q v H1 ∨ ∃ d u, H1 d = some u ∧ Mut (some u) ∧ ∀ od, Q v (upd H1 d (.frz od u))) :=
  ⟨fun pins s sg H Q I q => thn (h.run pins s sg H _ I q) fun v s1 ⟨x, H1, I1, r, q1⟩ => by
    rcases q1 with q1 | ⟨d, u, hd, mu, q1⟩
    · exact ⟨x, H1, I1, r, q1⟩
    · obtain ⟨od, I2⟩ := I1.lock hd mu
      exact ⟨x, _, I2, r, q1 od⟩⟩
/-- a new list or dict, made to stay -/
theorem ve_frz (h : PE X e (vE X.K X.mg G W .fr f)) : PE X e (vE X.K X.mg G W .im f) := by
  refine pe_weak (pe_ghost h) fun sg H Q ⟨B0, H0, B, e, S, k⟩ => ⟨B0, H0, B, e, S, ?_⟩
  cases ef : f e with
  | bad => rw [ef] at k; exact k
  | ex c => rw [ef] at k; exact k
  | ok d =>
    rw [ef] at k
    intro B' H' v x r
    obtain ⟨p, h1, h2, h3, h4⟩ := r
    subst h1
    obtain ⟨u, hu, mu, hl⟩ := h4.lock x.s h3
    refine .inr ⟨p, u, hu, mu, fun od => ?_⟩
    obtain ⟨s1, s2, r1⟩ := hl od
    refine k (upd B' p (.frz od u)) (upd H' p (.frz od u)) _ ⟨x.b.trans s2, same_updH x.h h2, s1, fun q hq => ?_⟩ r1
    rw [upd_ne (fun z => by subst z; exact hq h2)]
    exact x.n q hq
/-- what is flat stays -/
theorem ve_flat (h : PE X e (vE X.K X.mg G W m f)) : PE X e (vE X.K X.mg G W .im (eFlat f)) := by
  refine pe_weak h fun sg H Q ⟨B0, H0, B, e, S, k⟩ => ⟨B0, H0, B, e, S, ?_⟩
  unfold eFlat at k
  cases ef : f e with
  | bad => rw [ef] at k; exact k
  | ex c => rw [ef] at k; exact k
  | ok d =>
    rw [ef] at k
    have k : KE X.K X.mg W sg H0 B H Q .im (if flatD d then .ok d else .bad) := k
    by_cases hf : flatD d = true
    · rw [if_pos hf] at k
      exact fun B' H' v x r => k B' H' v x (flat_rep (r.all x.s (S.ext.h.trans x.h)) hf)
    · rw [if_neg hf] at k
      exact k.elim
end

/-! ### operations of two -/
@[simp] def eOp (g : D → D → Option D) (fa fb : List D → R D) (e : List D) : R D := (fa e).bind fun x => (fb e).bind fun y => ofO (g x y)
/-- what an operation on values asks, by data: any heap -/
def Does2 (K : PySem.W.Frag) (r : R2) (g : D → D → Option D) : Prop := ∀ (H : Hp) (x y : V) (d1 d2 d : D) (Q : VK), Rep true K H x d1 → Rep true K H y d2 → g d1 d2 = some d → (∀ v, (∀ B, Rep false K B v d) → Q v H) → r x y H Q
section
variable {K : PySem.W.Frag} {mg : Str → Option Value} {G : List Md} {W : WX} {sg : St} {H : Hp} {Q : VK} {ma mb m : Tg} {fa fb : List D → R D} {r : R2} {g : D → D → Option D}
theorem seq2 {kk : D → D → R D} {Rr : V → V → Hp → Prop} (h : vE K mg G W m (fun e => (fa e).bind fun x => (fb e).bind fun y => kk x y) sg H Q)
    (fin : ∀ B0 H0 B e B2 H2 x y d1 d2, Sta K G B0 H0 sg e B H → Sta K G B0 H0 sg e B2 H2 → Ext B H B2 H2 → RepT K H0 H B2 H2 ma x d1 → RepT K H0 H B2 H2 mb y d2 → KE K mg W sg H0 B H Q m (kk d1 d2) → Rr x y H2) :
    vE K mg G W ma fa sg H fun x H1 => vE K mg G W mb fb sg H1 fun y H2 => Rr x y H2 := by
  obtain ⟨B0, H0, B, e, S, k⟩ := h
  refine seq1 (P := KE K mg W sg H0 B H Q m) S k (fun c k => k.ex_of) (fun k => k) fun B1 H1 x d1 x1 S1 r1 k1 => ?_
  refine seq1 (P := KE K mg W sg H0 B H Q m) S1 k1 (fun c k B' H' a y hm => k B' H' a (x1.trans y) hm) (fun k => k) fun B2 H2 y d2 x2 S2 r2 k2 => ?_
  exact fin B0 H0 B e B2 H2 x y d1 d2 S S2 (x1.trans x2) (r1.later x2) (r2.earlier x1.h) k2
theorem op2_flat (hd : Does2 K r g) : ∀ (sg : St) (H : Hp) (Q : VK), vE K mg G W .im (eOp g fa fb) sg H Q → tOp r (vE K mg G W ma fa) (vE K mg G W mb fb) sg H Q := fun sg H Q h => by
  refine seq2 (kk := fun x y => ofO (g x y)) h fun B0 H0 B e B2 H2 x y d1 d2 S S2 x2 r1 r2 k => ?_
  have s0 : Same H0 H2 := S2.ext.h
  cases eg : g d1 d2 with
  | none => rw [eg] at k; exact k.elim
  | some d =>
    rw [eg] at k
    exact hd H2 x y d1 d2 d Q (r1.all x2.s s0) (r2.all x2.s s0) eg fun v hv => k B2 H2 v x2 (hv _)
end
section
variable {X : Cx} {G : List Md} {W : WX} {pos : Pos} {a b : Expr} {fa fb : List D → R D} {ma mb : Tg} {r : R2} {g : D → D → Option D}
theorem ve_bin {op : Operator} (ho : OpR X (binaryOp op) r) (hd : Does2 X.K r g) (ha : PE X a (vE X.K X.mg G W ma fa)) (hb : PE X b (vE X.K X.mg G W mb fb)) : PE X (.BinOp a op b pos) (vE X.K X.mg G W .im (eOp g fa fb)) := pe_weak (pe_op ho ha hb) (op2_flat hd)
theorem ve_cmp {op : CmpOp} (ho : OpR X (compareOp op) r) (hd : Does2 X.K r g) (ha : PE X a (vE X.K X.mg G W ma fa)) (hb : PE X b (vE X.K X.mg G W mb fb)) (hm : behindInMarks op b = false := by first | exact nomark _ | rfl) : PE X (.Compare a [op] [b] pos) (vE X.K X.mg G W .im (eOp g fa fb)) :=
  pe_weak (pe_cmpR ho ha hb hm) (op2_flat hd)
theorem ve_ix {rr : R2} (ho : IxR X rr) (hd : Does2 X.K rr g) (ha : PE X a (vE X.K X.mg G W ma fa)) (hb : PE X b (vE X.K X.mg G W mb fb)) (hp : PlainIx b := by exact fun _ _ => rfl) : PE X (.Subscript a b pos) (vE X.K X.mg G W .im (eOp g fa fb)) :=
  pe_weak (pe_ix ho ha hb hp) (op2_flat hd)
end
/-! ### tests -/
def asB : D → R Bool
  | .bl b => .ok b
  | _ => .bad
@[simp] theorem asB_bl (b : Bool) : asB (.bl b) = .ok b := rfl
@[simp] def tVal (f : List D → R D) (e : List D) : R Bool := (f e).bind asB
section
variable {X : Cx} {G : List Md} {W : WX} {pos : Pos} {a b : Expr} {f : List D → R D} {m : Tg} {rest : List Expr} {c1 c2 : List D → R Bool}
theorem tval_of {K : PySem.W.Frag} {mg : Str → Option Value} (sg : St) (H : Hp) (Q : Bool → Hp → Prop) (h : vT K mg G W (tVal f) sg H Q) : vE K mg G W m f sg H fun x H1 => ∃ c, x = .bl c ∧ Q c H1 := by
  obtain ⟨B0, H0, B, e, S, k⟩ := h
  refine seq1 (P := KT mg W sg B H Q) S k (fun c k => k) (fun k => k) fun B1 H1 x d x1 S1 r1 k1 => ?_
  have r := r1.all x1.s S1.ext.h
  cases r with
  | bl b => exact ⟨b, rfl, k1 B1 H1 x1⟩
  | _ => exact k1.elim
theorem vt_val (h : PE X a (vE X.K X.mg G W m f)) (he : ∀ whole, isTrue a X.env whole = (do let v ← whole; standAt a.pos; holding [v] (truthy v)) := by intro _; rfl) : PT X a (vT X.K X.mg G W (tVal f)) := pt_weak (pt_val h he) tval_of
theorem vt_cmp {op : CmpOp} {r : R2} {g : D → D → Option D} {fa fb : List D → R D} {ma mb : Tg} (ho : OpR X (compareOp op) r) (hd : Does2 X.K r g) (ha : PE X a (vE X.K X.mg G W ma fa)) (hb : PE X b (vE X.K X.mg G W mb fb)) (hm : behindInMarks op b = false := by first | exact nomark _ | rfl) :
    PT X (.Compare a [op] [b] pos) (vT X.K X.mg G W (tVal (eOp g fa fb))) := by
  refine pt_weak (pt_cmpR ho ha hb hm) fun sg H Q h => ?_
  exact op2_flat hd sg H _ (tval_of sg H Q h)
@[simp] def tNotB (c : List D → R Bool) (e : List D) : R Bool := (c e).bind fun b => .ok (!b)
@[simp] def tAndB (c d : List D → R Bool) (e : List D) : R Bool := (c e).bind fun b => if b then d e else .ok false
@[simp] def tOrB (c d : List D → R Bool) (e : List D) : R Bool := (c e).bind fun b => if b then .ok true else d e
theorem seqT {α : Type} {K : PySem.W.Frag} {mg : Str → Option Value} {sg : St} {H H0 B0 B : Hp} {e : List D} {fa : List D → R Bool} {kk : Bool → R α} {P : R α → Prop} (S : Sta K G B0 H0 sg e B H) {Rr : Bool → Hp → Prop}
    (h : P ((fa e).bind kk)) (hx : ∀ c, P (.ex c) → ∀ B' H' a, Ext B H B' H' → mg c = some (.ref a) → W (.ref a) none sg H') (hb : ¬ P .bad)
    (fin : ∀ B1 H1 b, Ext B H B1 H1 → Sta K G B0 H0 sg e B1 H1 → P (kk b) → Rr b H1) : vT K mg G W fa sg H Rr := by
  refine ⟨B0, H0, B, e, S, ?_⟩
  cases ea : fa e with
  | bad => rw [ea] at h; exact (hb h).elim
  | ex c => rw [ea] at h; exact hx c h
  | ok d =>
    rw [ea] at h
    exact fun B1 H1 x1 => fin B1 H1 d x1 (S.later x1) h
theorem KT.later {mg : Str → Option Value} {sg : St} {B H B1 H1 : Hp} {Q : Bool → Hp → Prop} {r : R Bool} (k : KT mg W sg B H Q r) (x : Ext B H B1 H1) : KT mg W sg B1 H1 Q r := by
  cases r with
  | ok d => exact fun B' H' y => k B' H' (x.trans y)
  | ex c => exact fun B' H' a y hm => k B' H' a (x.trans y) hm
  | bad => exact k
theorem vt_not (h : PT X a (vT X.K X.mg G W c1)) : PT X (.UnaryOp .Not a pos) (vT X.K X.mg G W (tNotB c1)) := by
  refine pt_weak (pt_not h) fun sg H Q ⟨B0, H0, B, e, S, k⟩ => ?_
  exact seqT (P := KT X.mg W sg B H Q) S k (fun c k => k) (fun k => k) fun B1 H1 b x1 S1 k1 => k1 B1 H1 x1
theorem and_of {K : PySem.W.Frag} {mg : Str → Option Value} (sg : St) (H : Hp) (Q : Bool → Hp → Prop) (h : vT K mg G W (tAndB c1 c2) sg H Q) : tAnd (vT K mg G W c1) (vT K mg G W c2) sg H Q := by
  obtain ⟨B0, H0, B, e, S, k⟩ := h
  refine seqT (P := KT mg W sg B H Q) S k (fun c k => k) (fun k => k) fun B1 H1 b x1 S1 k1 => ?_
  cases b with
  | true => exact iteT ⟨B0, H0, B1, e, S1, KT.later k1 x1⟩
  | false => exact iteF (k1 B1 H1 x1)
theorem or_of {K : PySem.W.Frag} {mg : Str → Option Value} (sg : St) (H : Hp) (Q : Bool → Hp → Prop) (h : vT K mg G W (tOrB c1 c2) sg H Q) : tOr (vT K mg G W c1) (vT K mg G W c2) sg H Q := by
  obtain ⟨B0, H0, B, e, S, k⟩ := h
  refine seqT (P := KT mg W sg B H Q) S k (fun c k => k) (fun k => k) fun B1 H1 b x1 S1 k1 => ?_
  cases b with
  | true => exact iteT (k1 B1 H1 x1)
  | false => exact iteF ⟨B0, H0, B1, e, S1, KT.later k1 x1⟩
theorem vw_and1 (h : PT X a (vT X.K X.mg G W c1)) : PW X (.BoolOp .And [a] pos) (vT X.K X.mg G W c1) := pw_and1 h
theorem vw_or1 (h : PT X a (vT X.K X.mg G W c1)) : PW X (.BoolOp .Or [a] pos) (vT X.K X.mg G W c1) := pw_or1 h
theorem vw_and (h : PT X a (vT X.K X.mg G W c1)) (h2 : PW X (.BoolOp .And (b :: rest) pos) (vT X.K X.mg G W c2)) : PW X (.BoolOp .And (a :: b :: rest) pos) (vT X.K X.mg G W (tAndB c1 c2)) := pw_weak (pw_and h h2) and_of
theorem vw_or (h : PT X a (vT X.K X.mg G W c1)) (h2 : PW X (.BoolOp .Or (b :: rest) pos) (vT X.K X.mg G W c2)) : PW X (.BoolOp .Or (a :: b :: rest) pos) (vT X.K X.mg G W (tOrB c1 c2)) := pw_weak (pw_or h h2) or_of
/-- and, or, not as values of bools -/
@[simp] def eNot (f : List D → R D) (e : List D) : R D := (f e).bind fun d => (asB d).bind fun b => .ok (.bl (!b))
@[simp] def eAnd (f g : List D → R D) (e : List D) : R D := (f e).bind fun d => (asB d).bind fun b => if b then g e else .ok (.bl false)
@[simp] def eOr (f g : List D → R D) (e : List D) : R D := (f e).bind fun d => (asB d).bind fun b => if b then .ok (.bl true) else g e
variable {f1 f2 : List D → R D} {m1 m2 : Tg}
theorem ve_not (h : PE X a (vE X.K X.mg G W m1 f1)) : PE X (.UnaryOp .Not a pos) (vE X.K X.mg G W .im (eNot f1)) := by
  refine pe_weak (pe_not h) fun sg H Q ⟨B0, H0, B, e, S, k⟩ => ?_
  refine seq1 (P := KE X.K X.mg W sg H0 B H Q .im) S k (fun c k => k) (fun k => k) fun B1 H1 x d x1 S1 r1 k1 => ?_
  have r := r1.all x1.s S1.ext.h
  cases r with
  | bl b => exact ⟨b, rfl, k1 B1 H1 _ x1 (.bl _)⟩
  | _ => exact k1.elim
theorem ve_one {op} (h : PE X a (vE X.K X.mg G W m1 f1)) : PE X (.BoolOp op [a] pos) (vE X.K X.mg G W m1 f1) := pe_one h
theorem ve_and (h : PE X a (vE X.K X.mg G W m1 f1)) (h2 : PE X (.BoolOp .And (b :: rest) pos) (vE X.K X.mg G W .im f2)) : PE X (.BoolOp .And (a :: b :: rest) pos) (vE X.K X.mg G W .im (eAnd f1 f2)) := by
  refine pe_weak (pe_and h h2) fun sg H Q ⟨B0, H0, B, e, S, k⟩ => ?_
  refine seq1 (P := KE X.K X.mg W sg H0 B H Q .im) S k (fun c k => k) (fun k => k) fun B1 H1 x d x1 S1 r1 k1 => ?_
  have r := r1.all x1.s S1.ext.h
  cases r with
  | bl b =>
    refine ⟨b, rfl, ?_⟩
    cases b with
    | true => exact iteT ⟨B0, H0, B1, e, S1, KE.later k1 x1⟩
    | false => exact iteF (k1 B1 H1 _ x1 (.bl _))
  | _ => exact k1.elim
theorem ve_or (h : PE X a (vE X.K X.mg G W m1 f1)) (h2 : PE X (.BoolOp .Or (b :: rest) pos) (vE X.K X.mg G W .im f2)) : PE X (.BoolOp .Or (a :: b :: rest) pos) (vE X.K X.mg G W .im (eOr f1 f2)) := by
  refine pe_weak (pe_or h h2) fun sg H Q ⟨B0, H0, B, e, S, k⟩ => ?_
  refine seq1 (P := KE X.K X.mg W sg H0 B H Q .im) S k (fun c k => k) (fun k => k) fun B1 H1 x d x1 S1 r1 k1 => ?_
  have r := r1.all x1.s S1.ext.h
  cases r with
  | bl b =>
    refine ⟨b, rfl, ?_⟩
    cases b with
    | true => exact iteT (k1 B1 H1 _ x1 (.bl _))
    | false => exact iteF ⟨B0, H0, B1, e, S1, KE.later k1 x1⟩
  | _ => exact k1.elim
@[simp] def eIf (c : List D → R Bool) (f g : List D → R D) (e : List D) : R D := (c e).bind fun b => if b then f e else g e
theorem ve_ifExp {c : Expr} (hc : PT X c (vT X.K X.mg G W c1)) (h : PE X a (vE X.K X.mg G W m f1)) (h2 : PE X b (vE X.K X.mg G W m f2)) : PE X (.IfExp c a b pos) (vE X.K X.mg G W m (eIf c1 f1 f2)) := by
  refine pe_weak (pe_ifExp hc h h2) fun sg H Q ⟨B0, H0, B, e, S, k⟩ => ?_
  refine seqT (P := KE X.K X.mg W sg H0 B H Q m) S k (fun c k => k) (fun k => k) fun B1 H1 b x1 S1 k1 => ?_
  cases b with
  | true => exact iteT ⟨B0, H0, B1, e, S1, KE.later k1 x1⟩
  | false => exact iteF ⟨B0, H0, B1, e, S1, KE.later k1 x1⟩
end

/-! ### argument lists -/
@[simp] def aNil (_ : List D) : R (List D) := .ok []
@[simp] def aCons (f : List D → R D) (r : List D → R (List D)) (e : List D) : R (List D) := (f e).bind fun d => (r e).bind fun ds => .ok (d :: ds)
section
variable {X : Cx} {G : List Md} {W : WX} {pos : Pos} {a : Expr} {es : List Expr} {f : List D → R D} {fs : List D → R (List D)} {m : Tg} {ms : List Tg}
theorem va_nil : PA X [] (vA X.K X.mg G W [] aNil) := pa_weak pa_nil fun sg H Q ⟨B0, H0, B, e, S, k⟩ => k B H [] (.refl S.ext.s) trivial
theorem va_cons (ha : PE X a (vE X.K X.mg G W m f)) (hr : PA X es (vA X.K X.mg G W ms fs)) (hs : starEach (a :: es) X.env = (false, eval a X.env) :: starEach es X.env := by rfl) : PA X (a :: es) (vA X.K X.mg G W (m :: ms) (aCons f fs)) := by
  refine pa_weak (pa_cons ha hr hs) fun sg H Q ⟨B0, H0, B, e, S, k⟩ => ?_
  refine seq1 (P := KA X.K X.mg W sg H0 B H Q (m :: ms)) S k (fun c k => k) (fun k => k) fun B1 H1 x d x1 S1 r1 k1 => ?_
  refine ⟨B0, H0, B1, e, S1, ?_⟩
  cases er : fs e with
  | bad => rw [er] at k1; exact k1.elim
  | ex c => rw [er] at k1; exact fun B' H' a y hm => k1 B' H' a (x1.trans y) hm
  | ok ds =>
    rw [er] at k1
    exact fun B2 H2 vs x2 r2 => k1 B2 H2 (x :: vs) (x1.trans x2) ⟨r1.later x2, RepTs.earlier x1.h r2⟩
end
end L2.VL
set_option Elab.async false
set_option linter.all false
set_option maxRecDepth 100000
set_option maxHeartbeats 4000000
namespace L2.VL
open PySem PySem.Spec PyProof.Rows

/-! ## promises and calls -/
inductive Pm where
  | im | ar
def Pm.md : Pm → Md
  | .im => .im
  | .ar => .ar
def Args (K : PySem.W.Frag) (B H : Hp) : List Pm → List V → List D → Prop
  | [], [], [] => True
  | .im :: ms, v :: vs, d :: ds => Rep false K B v d ∧ Args K B H ms vs ds
  | .ar :: ms, v :: vs, d :: ds => Rep true K H v d ∧ Args K B H ms vs ds
  | _, _, _ => False
inductive Rm where
  | im | fr
def Rm.tg : Rm → Tg
  | .im => .im
  | .fr => .fr
def RetT (K : PySem.W.Frag) (H B' H' : Hp) : Rm → V → D → Prop
  | .im, v, d => Rep false K B' v d
  | .fr, v, d => ∃ p, v = .ref p ∧ H p = none ∧ B' p = none ∧ Own K B' H' p d
def KF (K : PySem.W.Frag) (mg : Str → Option Value) (rm : Rm) (B H : Hp) (Q : VK) (E : XK) : R D → Prop
  | .ok d => ∀ B' H' v, Ext B H B' H' → RetT K H B' H' rm v d → Q v H'
  | .ex c => ∀ B' H' a, Ext B H B' H' → mg c = some (.ref a) → E (.ref a) none H'
  | .bad => False
def spF (K : PySem.W.Frag) (mg : Str → Option Value) (ms : List Pm) (rm : Rm) (F : List D → R D) : Sp := fun vs H Q E =>
  ∃ B ds, Same B H ∧ Args K B H ms vs ds ∧ KF K mg rm B H Q E (F ds)
theorem Args.len {K : PySem.W.Frag} {B H : Hp} : ∀ {ms : List Pm} {vs : List V} {ds : List D}, Args K B H ms vs ds → vs.length = ms.length ∧ ds.length = ms.length
  | [], [], [], _ => ⟨rfl, rfl⟩
  | .im :: _, _ :: _, _ :: _, ⟨_, r⟩ => ⟨congrArg (· + 1) r.len.1, congrArg (· + 1) r.len.2⟩
  | .ar :: _, _ :: _, _ :: _, ⟨_, r⟩ => ⟨congrArg (· + 1) r.len.1, congrArg (· + 1) r.len.2⟩
def Fit : List Tg → List Pm → Bool
  | [], [] => true
  | .im :: ts, .im :: ms => Fit ts ms
  | _ :: ts, .ar :: ms => Fit ts ms
  | _, _ => false
theorem args_of {K : PySem.W.Frag} {H0 H B' H' : Hp} (s : Same B' H') (s0 : Same H0 H') : ∀ {ts : List Tg} {ms : List Pm} {vs : List V} {ds : List D}, Fit ts ms = true → RepTs K H0 H B' H' ts vs ds → Args K B' H' ms vs ds
  | [], [], [], [], _, _ => trivial
  | .im :: _, .im :: _, _ :: _, _ :: _, f, ⟨h, r⟩ => ⟨h, args_of s s0 f r⟩
  | .im :: _, .ar :: _, _ :: _, _ :: _, f, ⟨h, r⟩ => ⟨h.all s s0, args_of s s0 f r⟩
  | .ar :: _, .ar :: _, _ :: _, _ :: _, f, ⟨h, r⟩ => ⟨h.all s s0, args_of s s0 f r⟩
  | .lo :: _, .ar :: _, _ :: _, _ :: _, f, ⟨h, r⟩ => ⟨h.all s s0, args_of s s0 f r⟩
  | .fr :: _, .ar :: _, _ :: _, _ :: _, f, ⟨h, r⟩ => ⟨h.all s s0, args_of s s0 f r⟩
  | .oc :: _, .ar :: _, _ :: _, _ :: _, f, ⟨h, r⟩ => ⟨h.all s s0, args_of s s0 f r⟩
@[simp] def eCall (F : List D → R D) (fs : List D → R (List D)) (e : List D) : R D := (fs e).bind F
section
variable {X : Cx} {G : List Md} {W : WX} {pos p : Pos} {a : Expr} {es : List Expr} {fs : List D → R (List D)} {ts : List Tg} {ms : List Pm} {rm : Rm} {F : List D → R D} {k : Nat} {f : Addr} {fd : FuncData} {ps : List Str} {x : Str}
theorem ret_tg {K : PySem.W.Frag} {H0 H B' H' : Hp} {v : V} {d : D} (r : RetT K H B' H' rm v d) : RepT K H0 H B' H' rm.tg v d := by
  cases rm with
  | im => exact r
  | fr => exact r
theorem ve_call (Fk : FnOk X.prog X.w X.K X.mg X.base (L2.CX X.prog X.w) k f fd ps (spF X.K X.mg ms rm F)) (hr : Room k X.A) (hm : X.mg x = some (.ref f)) (hk : PySem.W.keepIn X.K (.ref f) = true) (hb : Binds X.K fd ps []) (tk : Takes X W)
    (ha : PA X (a :: es) (vA X.K X.mg G W ts fs)) (hf : Fit ts ms = true := by rfl) (hg : Gl X x := by rfl) (hdb : (x == ("__debug__" : Str)) = false := by decide) (he : starEach (a :: es) X.env = (false, eval a X.env) :: starEach es X.env := by rfl) (hpl : (backTo pos (starEach es X.env)).any (·.1) = false := by rfl) :
    PE X (.Call (.Name x p) (a :: es) [] pos) (vE X.K X.mg G W rm.tg (eCall F fs)) := by
  refine pe_weak (pe_callS Fk hr hg hm hk hb (fun σ => passAt tk σ) ha hdb he hpl) fun sg H Q ⟨B0, H0, B, e, S, k⟩ => ?_
  refine ⟨B0, H0, B, e, S, ?_⟩
  unfold eCall at k
  cases ef : fs e with
  | bad => rw [ef] at k; exact k.elim
  | ex c => rw [ef] at k; exact k
  | ok ds =>
    rw [ef] at k
    intro B1 H1 vs x1 r1
    refine ⟨B1, ds, x1.s, args_of x1.s (S.ext.h.trans x1.h) hf r1, ?_⟩
    have k : KE X.K X.mg W sg H0 B H Q rm.tg (F ds) := k
    cases eF : F ds with
    | bad => rw [eF] at k; exact k
    | ex c => rw [eF] at k; exact fun B' H' a y hm => k B' H' a (x1.trans y) hm
    | ok d =>
      rw [eF] at k
      exact fun B' H' v y r => k B' H' v (x1.trans y) ((ret_tg r).earlier x1.h)
end

/-! ## statements -/
inductive Fl where
  | nx (e : List D) | rt (d : D)
def KS (K : PySem.W.Frag) (mg : Str → Option Value) (G' : List Md) (W : WX) (rm : Rm) (B0 H0 B : Hp) (Dn : Ends) : R Fl → Prop
  | .ok (.nx e') => ∀ sg' B' H', Sta K G' B0 H0 sg' e' B' H' → Same B B' → Dn.nx sg' H'
  | .ok (.rt d) => ∀ B' H' v, Ext B0 H0 B' H' → RetT K H0 B' H' rm v d → Dn.rt v H'
  | .ex c => ∀ B' H' a sg', Ext B0 H0 B' H' → mg c = some (.ref a) → W (.ref a) none sg' H'
  | .bad => False
def vS (K : PySem.W.Frag) (mg : Str → Option Value) (G G' : List Md) (W : WX) (rm : Rm) (g : List D → R Fl) : TS := fun Dn sg H =>
  ∃ B0 H0 B e, Sta K G B0 H0 sg e B H ∧ KS K mg G' W rm B0 H0 B Dn (g e)
theorem KS.later {K : PySem.W.Frag} {mg : Str → Option Value} {G' : List Md} {W : WX} {rm : Rm} {B0 H0 B B1 : Hp} {Dn : Ends} {r : R Fl} (k : KS K mg G' W rm B0 H0 B Dn r) (s : Same B B1) : KS K mg G' W rm B0 H0 B1 Dn r := by
  cases r with
  | ok fl =>
    cases fl with
    | nx e => exact fun sg' B' H' S' s' => k sg' B' H' S' (s.trans s')
    | rt d => exact k
  | ex c => exact k
  | bad => exact k
@[simp] def sNil (e : List D) : R Fl := .ok (.nx e)
def Fl.thn : Fl → (List D → R Fl) → R Fl
  | .nx e, g => g e
  | .rt d, _ => .ok (.rt d)
@[simp] theorem Fl.thn_nx (e : List D) (g : List D → R Fl) : (Fl.nx e).thn g = g e := rfl
@[simp] theorem Fl.thn_rt (d : D) (g : List D → R Fl) : (Fl.rt d).thn g = .ok (.rt d) := rfl
@[simp] def sSeq (g1 g2 : List D → R Fl) (e : List D) : R Fl := (g1 e).bind fun fl => fl.thn g2
@[simp] def sAsg (i : Nat) (f : List D → R D) (e : List D) : R Fl := (f e).bind fun d => .ok (.nx (e.set i d))
@[simp] def sRet (f : List D → R D) (e : List D) : R Fl := (f e).bind fun d => .ok (.rt d)
@[simp] def sDrop (f : List D → R D) (e : List D) : R Fl := (f e).bind fun _ => .ok (.nx e)
@[simp] def sIf (c : List D → R Bool) (g1 g2 : List D → R Fl) (e : List D) : R Fl := (c e).bind fun b => if b then g1 e else g2 e
@[simp] def sRaise (c : Str) (_ : List D) : R Fl := .ex c
section
variable {K : PySem.W.Frag} {G G' : List Md} {B0 H0 B H : Hp} {sg : St} {e : List D}
theorem get_set {α : Type} {l : List α} {i j : Nat} {x y : α} (h : (l.set i x)[j]? = some y) : (i = j ∧ x = y) ∨ l[j]? = some y := by
  by_cases e : i = j
  · subst e
    by_cases hi : i < l.length
    · rw [List.getElem?_set_self hi] at h
      exact .inl ⟨rfl, Option.some.inj h⟩
    · rw [List.set_eq_of_length_le (by omega)] at h
      exact .inr h
  · rw [List.getElem?_set_ne e] at h
    exact .inr h
theorem Sta.set (S : Sta K G B0 H0 sg e B H) (i : Nat) {m : Md} {v : V} {d : D} (h : Slot K H0 B H m (some v) d)
    (hd : m = .ow → ∀ j p, v = .ref p → G[j]? = some .ow → sg[j]? = some (some (.ref p)) → i = j) : Sta K (G.set i m) B0 H0 (sg.set i (some v)) (e.set i d) B H := by
  refine ⟨S.ext, S.sl.set h i, fun j1 j2 p g1 g2 s1 s2 => ?_⟩
  have l : i < G.length → i < sg.length := fun z => by rw [S.sl.len.1]; exact z
  by_cases e1 : i = j1
  · subst e1
    by_cases e2 : i = j2
    · exact e2
    · rw [List.getElem?_set_ne e2] at g2 s2
      have hi : i < G.length := by
        by_cases hi : i < G.length
        · exact hi
        · rw [List.set_eq_of_length_le (by omega)] at g1
          have := (List.getElem?_eq_some_iff.mp g1).1
          exact absurd this hi
      rw [List.getElem?_set_self hi] at g1
      rw [List.getElem?_set_self (l hi)] at s1
      have em : m = .ow := Option.some.inj g1
      have ev : v = .ref p := Option.some.inj (Option.some.inj s1)
      exact hd em j2 p ev g2 s2
  · by_cases e2 : i = j2
    · subst e2
      rw [List.getElem?_set_ne e1] at g1 s1
      have hi : i < G.length := by
        by_cases hi : i < G.length
        · exact hi
        · rw [List.set_eq_of_length_le (by omega)] at g2
          have := (List.getElem?_eq_some_iff.mp g2).1
          exact absurd this hi
      rw [List.getElem?_set_self hi] at g2
      rw [List.getElem?_set_self (l hi)] at s2
      have em : m = .ow := Option.some.inj g2
      have ev : v = .ref p := Option.some.inj (Option.some.inj s2)
      exact (hd em j1 p ev g1 s1).symm
    · rw [List.getElem?_set_ne e1] at g1 s1
      rw [List.getElem?_set_ne e2] at g2 s2
      exact S.dis j1 j2 p g1 g2 s1 s2
theorem Sta.own_some (S : Sta K G B0 H0 sg e B H) {j : Nat} {p : Addr} (g : G[j]? = some .ow) (s : sg[j]? = some (some (.ref p))) : H p ≠ none := by
  obtain ⟨x, d, h1, h2, h3⟩ := S.sl.get g
  rw [s] at h1
  cases h1
  exact h3.2.2.isSome
/-- fewer slots are known -/
def leM : Md → Md → Bool
  | _, .un => true
  | .im, .im => true
  | .ar, .ar => true
  | .ow, .ow => true
  | _, _ => false
def leG : List Md → List Md → Bool
  | [], [] => true
  | m :: ms, n :: ns => leM m n && leG ms ns
  | _, _ => false
theorem Slot.le : ∀ {m n : Md} {x : Option V} {d : D}, leM m n = true → Slot K H0 B H m x d → Slot K H0 B H n x d := fun {m n x d} h s => by
  cases n with
  | un => exact trivial
  | _ => cases m <;> first | exact s | exact absurd h Bool.false_ne_true
theorem Slots.le : ∀ {ms ns : List Md} {xs : List (Option V)} {ds : List D}, leG ms ns = true → Slots K H0 B H ms xs ds → Slots K H0 B H ns xs ds
  | [], [], [], [], _, _ => trivial
  | _ :: _, _ :: _, _ :: _, _ :: _, h, ⟨s, r⟩ => by
    have h : (leM _ _ && leG _ _) = true := h
    rw [Bool.and_eq_true] at h
    exact ⟨Slot.le h.1 s, Slots.le h.2 r⟩
theorem leG_ow : ∀ {ms ns : List Md} {i : Nat}, leG ms ns = true → ns[i]? = some .ow → ms[i]? = some .ow
  | [], [], _, _, h => h
  | m :: _, n :: _, 0, h, g => by
    have h : (leM _ _ && leG _ _) = true := h
    rw [Bool.and_eq_true] at h
    have e : n = .ow := Option.some.inj g
    subst e
    cases m <;> first | rfl | exact absurd h.1 Bool.false_ne_true
  | _ :: _, _ :: _, i + 1, h, g => by
    have h : (leM _ _ && leG _ _) = true := h
    rw [Bool.and_eq_true] at h
    exact leG_ow (i := i) h.2 (by simpa using g)
theorem Sta.le (S : Sta K G B0 H0 sg e B H) (h : leG G G' = true) : Sta K G' B0 H0 sg e B H := ⟨S.ext, S.sl.le h, fun i j p g1 g2 s1 s2 => S.dis i j p (leG_ow h g1) (leG_ow h g2) s1 s2⟩
end
section
variable {X : Cx} {G G1 G' : List Md} {W : WX} {rm : Rm} {pos : Pos} {a : Expr} {st : Stmt} {rest : List Stmt} {f : List D → R D} {g g1 g2 : List D → R Fl} {c : List D → R Bool}
theorem vs_nil : PSs X [] (vS X.K X.mg G G W rm sNil) := pss_weak pss_nil fun Dn sg H ⟨B0, H0, B, e, S, k⟩ => k sg B H S (Same.refl _)
theorem vs_cons (h1 : PS X st (vS X.K X.mg G G1 W rm g1)) (h2 : PSs X rest (vS X.K X.mg G1 G' W rm g2)) : PSs X (st :: rest) (vS X.K X.mg G G' W rm (sSeq g1 g2)) := by
  refine pss_weak (pss_cons h1 h2) fun Dn sg H ⟨B0, H0, B, e, S, k⟩ => ⟨B0, H0, B, e, S, ?_⟩
  unfold sSeq at k
  cases eg : g1 e with
  | bad => rw [eg] at k; exact k
  | ex c => rw [eg] at k; exact k
  | ok fl =>
    rw [eg] at k
    cases fl with
    | nx e1 => exact fun sg' B' H' S' s' => ⟨B0, H0, B', e1, S', KS.later k s'⟩
    | rt d => exact k
theorem vs_one (h1 : PS X st (vS X.K X.mg G G' W rm g1)) : PSs X [st] (vS X.K X.mg G G' W rm g1) := pss_one h1
/-- fewer slots known behind -/
theorem vs_le (hl : leG G1 G' = true) (h : PSs X rest (vS X.K X.mg G G1 W rm g)) : PSs X rest (vS X.K X.mg G G' W rm g) := by
  refine pss_weak h fun Dn sg H ⟨B0, H0, B, e, S, k⟩ => ⟨B0, H0, B, e, S, ?_⟩
  cases eg : g e with
  | bad => rw [eg] at k; exact k
  | ex c => rw [eg] at k; exact k
  | ok fl =>
    rw [eg] at k
    cases fl with
    | nx e1 => exact fun sg' B' H' S' s' => k sg' B' H' (S'.le hl) s'
    | rt d => exact k
theorem vs_le1 (hl : leG G1 G' = true) (h : PS X st (vS X.K X.mg G G1 W rm g)) : PS X st (vS X.K X.mg G G' W rm g) := by
  refine ps_weak h fun Dn sg H ⟨B0, H0, B, e, S, k⟩ => ⟨B0, H0, B, e, S, ?_⟩
  cases eg : g e with
  | bad => rw [eg] at k; exact k
  | ex c => rw [eg] at k; exact k
  | ok fl =>
    rw [eg] at k
    cases fl with
    | nx e1 => exact fun sg' B' H' S' s' => k sg' B' H' (S'.le hl) s'
    | rt d => exact k
/-- fewer slots known ahead -/
theorem vs_pre (hl : leG G G1 = true) (h : PSs X rest (vS X.K X.mg G1 G' W rm g)) : PSs X rest (vS X.K X.mg G G' W rm g) :=
  pss_weak h fun Dn sg H ⟨B0, H0, B, e, S, k⟩ => ⟨B0, H0, B, e, S.le hl, k⟩
/-- one's own list in slot i is locked, and stays -/
theorem Sta.freeze {K : PySem.W.Frag} {B0 H0 B H : Hp} {sg : St} {e : List D} (S : Sta K G B0 H0 sg e B H) {i : Nat} (hG : G[i]? = some .ow) : ∃ p u, H p = some u ∧ Mut (some u) ∧ ∀ od, Sta K (G.set i .im) B0 H0 sg e (upd B p (.frz od u)) (upd H p (.frz od u)) ∧ Same B (upd B p (.frz od u)) := by
  obtain ⟨x, d, h1, h2, h3⟩ := S.sl.get hG
  obtain ⟨p, rfl, hp0, hpb, ho⟩ := h3.own
  obtain ⟨u, hu, mu, hl⟩ := ho.lock S.ext.s hpb
  refine ⟨p, u, hu, mu, fun od => ?_⟩
  obtain ⟨s1, s2, r1⟩ := hl od
  have nb : ∀ q, q ≠ p → upd B p (.frz od u) q = B q := fun q hq => upd_ne hq
  refine ⟨⟨⟨S.ext.b.trans s2, same_updH S.ext.h hp0, s1, fun q hq => ?_⟩, ?_, fun j1 j2 q g1 g2 t1 t2 => ?_⟩, s2⟩
  · rw [nb q (fun z => by subst z; exact hq hp0)]
    exact S.ext.n q hq
  · have keep : ∀ {m : Md} {x : Option V} {d : D}, Slot K H0 B H m x d → (m = .ow → x ≠ some (.ref p)) → Slot K H0 (upd B p (.frz od u)) (upd H p (.frz od u)) m x d := by
      intro m x d s hne
      cases m with
      | un => trivial
      | im =>
        cases x with
        | none => exact s.elim
        | some v => exact Rep.mono s2 s
      | ar =>
        cases x with
        | none => exact s.elim
        | some v => exact s
      | ex _ _ =>
        cases x with
        | none => exact s.elim
        | some v => exact s
      | ow =>
        obtain ⟨q, rfl, q1, q2, q3⟩ := Slot.own s
        have hq : q ≠ p := fun z => hne rfl (by rw [z])
        refine ⟨q1, by rw [nb q hq]; exact q2, ?_⟩
        cases d with
        | lst ds =>
          obtain ⟨vs, a1, a2⟩ := q3
          exact ⟨vs, by rw [upd_ne hq]; exact a1, a2.mono s2⟩
        | dic ds =>
          obtain ⟨vs, a1, a2⟩ := q3
          exact ⟨vs, by rw [upd_ne hq]; exact a1, a2.mono s2⟩
        | _ => exact q3.elim
    have go : ∀ {ms : List Md} {xs : List (Option V)} {ds : List D} (n : Nat), Slots K H0 B H ms xs ds → ms[n]? = some .ow → xs[n]? = some (some (.ref p)) → ds[n]? = some d → (∀ j : Nat, ms[j]? = some Md.ow → xs[j]? = some (some (V.ref p)) → j = n) → Slots K H0 (upd B p (.frz od u)) (upd H p (.frz od u)) (ms.set n .im) xs ds := by
      intro ms
      induction ms with
      | nil => intro xs ds n s hm; simp at hm
      | cons m ms ih =>
        intro xs ds n s hm hx hd hu
        cases xs with
        | nil => exact s.elim
        | cons x xs =>
          cases ds with
          | nil => exact s.elim
          | cons d' ds =>
            obtain ⟨s, r⟩ := s
            cases n with
            | zero =>
              have em : m = .ow := Option.some.inj hm
              have ex : x = some (.ref p) := Option.some.inj hx
              have ed : d' = d := Option.some.inj hd
              subst em ex ed
              refine ⟨r1, ?_⟩
              have rest : ∀ {ms : List Md} {xs : List (Option V)} {ds : List D}, Slots K H0 B H ms xs ds → (∀ j : Nat, ms[j]? = some Md.ow → xs[j]? = some (some (V.ref p)) → False) → Slots K H0 (upd B p (.frz od u)) (upd H p (.frz od u)) ms xs ds := by
                intro ms
                induction ms with
                | nil => intro xs ds s _; cases xs <;> cases ds <;> first | trivial | exact s.elim
                | cons m ms ih2 =>
                  intro xs ds s hu
                  cases xs with
                  | nil => exact s.elim
                  | cons x xs =>
                    cases ds with
                    | nil => exact s.elim
                    | cons d ds =>
                      obtain ⟨s, r⟩ := s
                      exact ⟨keep s fun em ex => hu 0 (by rw [em]; rfl) (by rw [ex]; rfl), ih2 r fun j a b => hu (j + 1) (by simpa using a) (by simpa using b)⟩
              exact rest r fun j a b => by
                have z := hu (j + 1) (by simpa using a) (by simpa using b)
                cases z
            | succ n =>
              refine ⟨keep s fun em ex => ?_, ih n r (by simpa using hm) (by simpa using hx) (by simpa using hd) fun j a b => by
                have z := hu (j + 1) (by simpa using a) (by simpa using b)
                omega⟩
              have z := hu 0 (by rw [em]; rfl) (by rw [ex]; rfl)
              cases z
    exact go i S.sl hG h1 h2 fun j a b => S.dis j i p a hG b h1
  · rcases get_set g1 with ⟨_, z⟩ | g1
    · cases z
    · rcases get_set g2 with ⟨_, z⟩ | g2
      · cases z
      · exact S.dis j1 j2 q g1 g2 t1 t2
theorem pss_ghost {t : TS} (h : PSs X rest t) : PSs X rest (fun Dn sg H => ∃ d u, H d = some u ∧ Mut (some u) ∧ ∀ od, t Dn sg (upd H d (.frz od u))) :=
  ⟨fun pins s sg H Dn I q => by
    obtain ⟨d, u, hd, mu, q⟩ := q
    obtain ⟨od, I1⟩ := I.lock hd mu
    exact h.run pins s sg _ Dn I1 (q od)⟩
theorem pss_post {t : TS} (h : PSs X rest t) : PSs X rest (fun Dn sg H => t ⟨fun sg' H' => ∃ d u, H' d = some u ∧ Mut (some u) ∧ ∀ od, Dn.nx sg' (upd H' d (.frz od u)), Dn.rt, Dn.bk, Dn.ct⟩ sg H) :=
  ⟨fun pins s sg H Dn I q => thn (h.run pins s sg H _ I q) fun f s1 q => by
    cases f with
    | next =>
      obtain ⟨sg', H', I2, d, u, hd, mu, q⟩ := q
      obtain ⟨od, I3⟩ := I2.lock hd mu
      exact ⟨sg', _, I3, q od⟩
    | brk => exact q
    | cont => exact q
    | ret v => exact q⟩
theorem vs_freeze (i : Nat) (hG : G[i]? = some .ow) (h : PSs X rest (vS X.K X.mg (G.set i .im) G' W rm g)) : PSs X rest (vS X.K X.mg G G' W rm g) :=
  pss_weak (pss_ghost h) fun Dn sg H ⟨B0, H0, B, e, S, k⟩ => by
    obtain ⟨p, u, hu, mu, hl⟩ := S.freeze hG
    refine ⟨p, u, hu, mu, fun od => ?_⟩
    obtain ⟨S', s'⟩ := hl od
    exact ⟨B0, H0, _, e, S', KS.later k s'⟩
theorem vs_freezeEnd (i : Nat) (hG : G1[i]? = some .ow) (h : PSs X rest (vS X.K X.mg G G1 W rm g)) : PSs X rest (vS X.K X.mg G (G1.set i .im) W rm g) := by
  refine pss_weak (pss_post h) fun Dn sg H ⟨B0, H0, B, e, S, k⟩ => ⟨B0, H0, B, e, S, ?_⟩
  cases eg : g e with
  | bad => rw [eg] at k; exact k
  | ex c => rw [eg] at k; exact k
  | ok fl =>
    rw [eg] at k
    cases fl with
    | nx e1 =>
      intro sg' B' H' S' s'
      obtain ⟨p, u, hu, mu, hl⟩ := S'.freeze hG
      refine ⟨p, u, hu, mu, fun od => ?_⟩
      obtain ⟨S2, s2⟩ := hl od
      exact k sg' _ _ S2 (s'.trans s2)
    | rt d => exact k

/-! ### assignments of names -/
variable {i : Nat} {x : Str} {pos' : Pos} {m : Tg}
theorem ks_ex {K : PySem.W.Frag} {mg : Str → Option Value} {B0 H0 B H : Hp} {sg : St} {e : List D} {Dn : Ends} {c : Str} (S : Sta K G B0 H0 sg e B H) (k : KS K mg G' W rm B0 H0 B Dn (.ex c)) : ∀ B' H' a, Ext B H B' H' → mg c = some (.ref a) → W (.ref a) none sg H' :=
  fun B' H' a y hm => k B' H' a sg (S.ext.trans y) hm
theorem asg_im {K : PySem.W.Frag} {mg : Str → Option Value} (Dn : Ends) (sg : St) (H : Hp) (h : vS K mg G (G.set i .im) W rm (sAsg i f) Dn sg H) : tAsg (vE K mg G W .im f) (gName i) Dn sg H := by
  obtain ⟨B0, H0, B, e, S, k⟩ := h
  refine seq1 (P := KS K mg (G.set i .im) W rm B0 H0 B Dn) S k (fun c k => ks_ex S k) (fun k => k) fun B1 H1 x d x1 S1 r1 k1 => ?_
  exact k1 _ B1 H1 (S1.set i (m := .im) r1 (fun z => by cases z)) x1.b
theorem asg_ar {K : PySem.W.Frag} {mg : Str → Option Value} (Dn : Ends) (sg : St) (H : Hp) (h : vS K mg G (G.set i .ar) W rm (sAsg i f) Dn sg H) : tAsg (vE K mg G W .ar f) (gName i) Dn sg H := by
  obtain ⟨B0, H0, B, e, S, k⟩ := h
  refine seq1 (P := KS K mg (G.set i .ar) W rm B0 H0 B Dn) S k (fun c k => ks_ex S k) (fun k => k) fun B1 H1 x d x1 S1 r1 k1 => ?_
  exact k1 _ B1 H1 (S1.set i (m := .ar) r1 (fun z => by cases z)) x1.b
theorem asg_ow {K : PySem.W.Frag} {mg : Str → Option Value} (Dn : Ends) (sg : St) (H : Hp) (h : vS K mg G (G.set i .ow) W rm (sAsg i f) Dn sg H) : tAsg (vE K mg G W .fr f) (gName i) Dn sg H := by
  obtain ⟨B0, H0, B, e, S, k⟩ := h
  refine seq1 (P := KS K mg (G.set i .ow) W rm B0 H0 B Dn) S k (fun c k => ks_ex S k) (fun k => k) fun B1 H1 x d x1 S1 r1 k1 => ?_
  obtain ⟨p, rfl, hp, hb, ho⟩ := r1
  refine k1 _ B1 H1 (S1.set i (m := .ow) ⟨S.ext.h.free hp, hb, ho⟩ fun _ j q eq hj hs => ?_) x1.b
  cases eq
  exact absurd hp (S.own_some hj hs)
theorem vs_set (he : PE X a (vE X.K X.mg G W .im f)) (hN : X.N.Nodup) (hi : X.N[i]? = some x := by rfl) (hx : Loc X.env.scope x := by first | exact Or.inl rfl | exact Or.inr rfl) (hs : swapsWith a (some (.Name x pos')) pos.line X.env = pure false := by rfl)
    (hf : X.fn x = true ∨ X.env.scope.names.lookup x = some .local := by first | exact .inl rfl | exact .inr rfl) : PS X (.Assign [.Name x pos'] a pos) (vS X.K X.mg G (G.set i .im) W rm (sAsg i f)) := ps_weak (ps_set hN hi hx he hs hf) asg_im
theorem vs_setAr (he : PE X a (vE X.K X.mg G W .ar f)) (hN : X.N.Nodup) (hi : X.N[i]? = some x := by rfl) (hx : Loc X.env.scope x := by first | exact Or.inl rfl | exact Or.inr rfl) (hs : swapsWith a (some (.Name x pos')) pos.line X.env = pure false := by rfl)
    (hf : X.fn x = true ∨ X.env.scope.names.lookup x = some .local := by first | exact .inl rfl | exact .inr rfl) : PS X (.Assign [.Name x pos'] a pos) (vS X.K X.mg G (G.set i .ar) W rm (sAsg i f)) := ps_weak (ps_set hN hi hx he hs hf) asg_ar
theorem vs_setOw (he : PE X a (vE X.K X.mg G W .fr f)) (hN : X.N.Nodup) (hi : X.N[i]? = some x := by rfl) (hx : Loc X.env.scope x := by first | exact Or.inl rfl | exact Or.inr rfl) (hs : swapsWith a (some (.Name x pos')) pos.line X.env = pure false := by rfl)
    (hf : X.fn x = true ∨ X.env.scope.names.lookup x = some .local := by first | exact .inl rfl | exact .inr rfl) : PS X (.Assign [.Name x pos'] a pos) (vS X.K X.mg G (G.set i .ow) W rm (sAsg i f)) := ps_weak (ps_set hN hi hx he hs hf) asg_ow
/-! ### return, drop, if, raise -/
theorem vs_ret (he : PE X a (vE X.K X.mg G W .im f)) : PS X (.Return (some a) pos) (vS X.K X.mg G G' W .im (sRet f)) := by
  refine ps_weak (ps_ret he) fun Dn sg H ⟨B0, H0, B, e, S, k⟩ => ?_
  exact seq1 (P := KS X.K X.mg G' W .im B0 H0 B Dn) S k (fun c k => ks_ex S k) (fun k => k) fun B1 H1 x d x1 S1 r1 k1 => k1 B1 H1 x S1.ext r1
theorem vs_retFr (he : PE X a (vE X.K X.mg G W .fr f)) : PS X (.Return (some a) pos) (vS X.K X.mg G G' W .fr (sRet f)) := by
  refine ps_weak (ps_ret he) fun Dn sg H ⟨B0, H0, B, e, S, k⟩ => ?_
  exact seq1 (P := KS X.K X.mg G' W .fr B0 H0 B Dn) S k (fun c k => ks_ex S k) (fun k => k) fun B1 H1 x d x1 S1 r1 k1 => by
    obtain ⟨p, rfl, hp, hb, ho⟩ := r1
    exact k1 B1 H1 _ S1.ext ⟨p, rfl, S.ext.h.free hp, hb, ho⟩
/-- return of one's own list in slot i -/
theorem vs_retOw {pn : Pos} (hG : G[i]? = some .ow := by rfl) (hN : X.N[i]? = some x := by rfl) (hv : Vis X.env.scope x := by first | exact Or.inl rfl | exact Or.inr (Or.inl rfl) | exact Or.inr (Or.inr rfl)) (hd : (x == ("__debug__" : Str)) = false := by decide)
    (hcd : (x == ("__classdict__" : Str)) = false := by decide) : PS X (.Return (some (.Name x pn)) pos) (vS X.K X.mg G G' W .fr (sRet (eVar i))) := by
  refine ps_weak (ps_ret (pe_var hN hv hd hcd)) fun Dn sg H ⟨B0, H0, B, e, S, k⟩ => ?_
  obtain ⟨v, d, h1, h2, h3⟩ := S.sl.get hG
  unfold sRet eVar at k
  rw [h2] at k
  obtain ⟨p, rfl, hp, hb, ho⟩ := h3.own
  exact ⟨.ref p, h1, k B H _ S.ext ⟨p, rfl, hp, hb, ho⟩⟩
theorem vs_expr (he : PE X a (vE X.K X.mg G W m f)) (hs : swapsWith a none pos.line X.env = pure false := by rfl) : PS X (.Expr a pos) (vS X.K X.mg G G W rm (sDrop f)) := by
  refine ps_weak (ps_expr he hs) fun Dn sg H ⟨B0, H0, B, e, S, k⟩ => ?_
  exact seq1 (P := KS X.K X.mg G W rm B0 H0 B Dn) S k (fun c k => ks_ex S k) (fun k => k) fun B1 H1 x d x1 S1 r1 k1 => k1 sg B1 H1 S1 x1.b
theorem vs_if {cc : Expr} {sa sb : List Stmt} (hc : PT X cc (vT X.K X.mg G W c)) (ha : PSs X sa (vS X.K X.mg G G' W rm g1)) (hb : PSs X sb (vS X.K X.mg G G' W rm g2)) : PS X (.If cc sa sb pos) (vS X.K X.mg G G' W rm (sIf c g1 g2)) := by
  refine ps_weak (ps_if hc ha hb) fun Dn sg H ⟨B0, H0, B, e, S, k⟩ => ?_
  refine seqT (P := KS X.K X.mg G' W rm B0 H0 B Dn) S k (fun c k => ks_ex S k) (fun k => k) fun B1 H1 b x1 S1 k1 => ?_
  cases b with
  | true => exact iteT ⟨B0, H0, B1, e, S1, KS.later k1 x1.b⟩
  | false => exact iteF ⟨B0, H0, B1, e, S1, KS.later k1 x1.b⟩
theorem vs_raise {C : Addr} {n : Str} {ms' : Str} {jj : Nat} {bmB : List Value} {Bn newId initId : String} {p1 p2 p3 : Pos} (hc : X.calm = true) (tk : Takes X W) (F : ExcBaseFacts Bn newId initId bmB) (q : PySem.W.excIn X.K C bmB newId = true) (gC : X.mg n = some (.ref C)) (kC : PySem.W.keepIn X.K (.ref C) = true) (r : Raises X (.ref C)) (hg : Gl X n := by rfl)
    (hdb : (n == ("__debug__" : Str)) = false := by decide) : PS X (.Raise (some (.Call (.Name n p1) [.Constant (.str ms') jj p2] [] p3)) none pos) (vS X.K X.mg G G' W rm (sRaise n)) :=
  ps_weak (ps_raise hc tk (pmk_own F q gC kC r hg hdb)) fun Dn sg H ⟨B0, H0, B, e, S, k⟩ => k B H C sg S.ext gC
theorem vs_pass : PS X (.Pass pos) (vS X.K X.mg G G W rm sNil) := ps_weak ps_pass fun Dn sg H ⟨B0, H0, B, e, S, k⟩ => k sg B H S (Same.refl _)
/-! ### while -/
def whileN (c : List D → R Bool) (g : List D → R Fl) : Nat → List D → R Fl
  | 0, _ => .bad
  | n + 1, e => (c e).bind fun b => if b then (g e).bind fun fl => fl.thn (whileN c g n) else .ok (.nx e)
theorem vs_while {cc : Expr} {body : List Stmt} (n : Nat) (hp : PassesOwn (model X.prog X.w) X.A X.env X.xe) (hc : PT X cc (vT X.K X.mg G W c)) (hb : PSs X body (vS X.K X.mg G G1 W rm g)) (hl : leG G1 G = true) :
    PS X (.While cc body [] pos) (vS X.K X.mg G G W rm (whileN c g n)) := by
  refine ps_weak (ps_while hp hc hb) fun Dn sg H ⟨B0, H0, B, e, S, k⟩ => ?_
  refine ⟨fun m sg H => ∃ B e, Sta X.K G B0 H0 sg e B H ∧ KS X.K X.mg G W rm B0 H0 B Dn (whileN c g m e), ⟨n, B, e, S, k⟩, ?_⟩
  rintro m sg H ⟨B, e, S, k⟩
  cases m with
  | zero => exact k.elim
  | succ m =>
    unfold whileN at k
    refine seqT (P := KS X.K X.mg G W rm B0 H0 B Dn) S k (fun c k => ks_ex S k) (fun k => k) fun B1 H1 b x1 S1 k1 => ?_
    cases b with
    | false => exact iteF (k1 sg B1 H1 S1 x1.b)
    | true =>
      refine iteT ⟨fun sg' H' => ∃ B e, Sta X.K G B0 H0 sg' e B H' ∧ KS X.K X.mg G W rm B0 H0 B Dn (whileN c g m e), fun sg' H' ⟨B2, e2, S2, k2⟩ => ⟨m, Nat.lt_succ_self m, B2, e2, S2, k2⟩, B0, H0, B1, e, S1, ?_⟩
      have k1 : KS X.K X.mg G W rm B0 H0 B Dn ((g e).bind fun fl => fl.thn (whileN c g m)) := k1
      cases eg : g e with
      | bad => rw [eg] at k1; exact k1
      | ex c => rw [eg] at k1; exact k1
      | ok fl =>
        rw [eg] at k1
        cases fl with
        | nx e2 => exact fun sg' B' H' S' s' => ⟨B', e2, S'.le hl, KS.later k1 (x1.b.trans s')⟩
        | rt d => exact k1
end

/-! ## a def -/
def startG (ms : List Pm) (n : Nat) : List Md := ms.map Pm.md ++ List.replicate (n - ms.length) .un
def Fl.fin : Fl → R D
  | .nx _ => .ok .non
  | .rt d => .ok d
def Fl.finr : Fl → R D
  | .nx _ => .bad
  | .rt d => .ok d
@[simp] theorem Fl.fin_nx (e : List D) : (Fl.nx e).fin = .ok .non := rfl
@[simp] theorem Fl.fin_rt (d : D) : (Fl.rt d).fin = .ok d := rfl
@[simp] theorem Fl.finr_nx (e : List D) : (Fl.nx e).finr = .bad := rfl
@[simp] theorem Fl.finr_rt (d : D) : (Fl.rt d).finr = .ok d := rfl
@[simp] def runF (n : Nat) (g : List D → R Fl) (ds : List D) : R D := (g (ds ++ List.replicate (n - ds.length) .non)).bind Fl.fin
@[simp] def runFr (n : Nat) (g : List D → R Fl) (ds : List D) : R D := (g (ds ++ List.replicate (n - ds.length) .non)).bind Fl.finr
theorem slots_args {K : PySem.W.Frag} {B H : Hp} : ∀ {ms : List Pm} {vs : List V} {ds : List D}, Args K B H ms vs ds → ∀ (n : Nat), Slots K H B H (ms.map Pm.md ++ List.replicate n .un) (vs.map some ++ List.replicate n none) (ds ++ List.replicate n .non)
  | [], [], [], _, n => by
    induction n with
    | zero => trivial
    | succ n ih => exact ⟨trivial, ih⟩
  | .im :: _, _ :: _, _ :: _, ⟨h, r⟩, n => ⟨h, slots_args r n⟩
  | .ar :: _, _ :: _, _ :: _, ⟨h, r⟩, n => ⟨h, slots_args r n⟩
theorem startG_noow {ms : List Pm} {n i : Nat} (h : (startG ms n)[i]? = some .ow) : False := by
  have hm := List.mem_of_getElem? h
  unfold startG at hm
  rcases List.mem_append.mp hm with z | z
  · obtain ⟨p, _, e⟩ := List.mem_map.mp z
    cases p <;> cases e
  · have := List.eq_of_mem_replicate z
    cases this
section
variable {P : Program} {w : World} {K : PySem.W.Frag} {mg : Str → Option Value} {base : Heap} {x qual : Str} {st : Stmt} {f : Addr} {fd : FuncData} {N ps : List Str} {k : Nat} {ms : List Pm} {G' : List Md} {g : List D → R Fl}
theorem okV {M : List D → R D} (F : Fun K x qual st f fd) (S : FnScope N ps (defScope st)) (hl : ms.length = ps.length) (hM : M = runF N.length g)
    (hbody : ∀ (cdv : Value) (A : Around) (outer : List Env) (s : Shared) (H : Hp) (E : XK), Room k (A.deeper (envOfC qual (defScope st) s.heap.objs.size f cdv)) →
      PSs (cxOf (L2.CX P w) P w K mg base N qual (defScope st) f cdv A outer s H E) (defBody st) (vS K mg (startG ms N.length) G' (fun cls d _ H => E cls d H) .im g)) :
    FnOk P w K mg base (L2.CX P w) (k + 1) f fd ps (spF K mg ms .im M) := by
  subst hM
  refine F.okX S (fun vs H Q E h => ?_) (fun cdv A outer s H vs Q E hr h => ⟨_, hbody cdv A outer s H E hr, ?_⟩)
  · obtain ⟨B, ds, _, ha, _⟩ := h
    rw [ha.len.1, hl]
  · obtain ⟨B, ds, sb, ha, kf⟩ := h
    have e1 : vs.length = ds.length := by rw [ha.len.1, ha.len.2]
    have hS := slots_args ha (N.length - ms.length)
    refine ⟨B, H, B, ds ++ List.replicate (N.length - ds.length) .non, ⟨.refl sb, ?_, fun i j p g1 => (startG_noow g1).elim⟩, ?_⟩
    · rw [show N.length - ds.length = N.length - ms.length by rw [ha.len.2]]
      unfold start startG
      rw [show N.length - vs.length = N.length - ms.length by rw [ha.len.1]]
      exact hS
    · unfold runF at kf
      cases eg : g (ds ++ List.replicate (N.length - ds.length) .non) with
      | bad => rw [eg] at kf; exact kf
      | ex c => rw [eg] at kf; exact fun B' H' a sg' y hm => kf B' H' a y hm
      | ok fl =>
        rw [eg] at kf
        cases fl with
        | nx e' => exact fun sg' B' H' S' _ => kf B' H' _ S'.ext .non
        | rt d => exact kf
theorem okVr {M : List D → R D} (F : Fun K x qual st f fd) (S : FnScope N ps (defScope st)) (hl : ms.length = ps.length) (hM : M = runFr N.length g)
    (hbody : ∀ (cdv : Value) (A : Around) (outer : List Env) (s : Shared) (H : Hp) (E : XK), Room k (A.deeper (envOfC qual (defScope st) s.heap.objs.size f cdv)) →
      PSs (cxOf (L2.CX P w) P w K mg base N qual (defScope st) f cdv A outer s H E) (defBody st) (vS K mg (startG ms N.length) G' (fun cls d _ H => E cls d H) .fr g)) :
    FnOk P w K mg base (L2.CX P w) (k + 1) f fd ps (spF K mg ms .fr M) := by
  subst hM
  refine F.okX S (fun vs H Q E h => ?_) (fun cdv A outer s H vs Q E hr h => ⟨_, hbody cdv A outer s H E hr, ?_⟩)
  · obtain ⟨B, ds, _, ha, _⟩ := h
    rw [ha.len.1, hl]
  · obtain ⟨B, ds, sb, ha, kf⟩ := h
    have hS := slots_args ha (N.length - ms.length)
    refine ⟨B, H, B, ds ++ List.replicate (N.length - ds.length) .non, ⟨.refl sb, ?_, fun i j p g1 => (startG_noow g1).elim⟩, ?_⟩
    · rw [show N.length - ds.length = N.length - ms.length by rw [ha.len.2]]
      unfold start startG
      rw [show N.length - vs.length = N.length - ms.length by rw [ha.len.1]]
      exact hS
    · unfold runFr at kf
      cases eg : g (ds ++ List.replicate (N.length - ds.length) .non) with
      | bad => rw [eg] at kf; exact kf
      | ex c => rw [eg] at kf; exact fun B' H' a sg' y hm => kf B' H' a y hm
      | ok fl =>
        rw [eg] at kf
        cases fl with
        | nx e' => exact kf.elim
        | rt d => exact kf
/-- the promise by another function that says the same where it says something -/
theorem FnOk.spec {rm : Rm} {ps : List Str} {k : Nat} {F : Nat → List D → R D} {F' : List D → R D} (h : ∀ n, FnOk P w K mg base (L2.CX P w) k f fd ps (spF K mg ms rm (F n))) (hs : ∀ ds, F' ds = .bad ∨ ∃ n, F n ds = F' ds) :
    FnOk P w K mg base (L2.CX P w) k f fd ps (spF K mg ms rm F') := by
  have pick : ∀ vs H Q E, spF K mg ms rm F' vs H Q E → ∃ n, spF K mg ms rm (F n) vs H Q E := fun vs H Q E ⟨B, ds, sb, ha, kf⟩ => by
    rcases hs ds with e | ⟨n, e⟩
    · rw [e] at kf; exact kf.elim
    · exact ⟨n, B, ds, sb, ha, by rw [e]; exact kf⟩
  refine ⟨fun vs H Q E q => ?_, fun A outer s H args us vs Q E hr he hb hv hsp => ?_⟩
  · obtain ⟨n, q⟩ := pick vs H Q E q
    exact (h n).len vs H Q E q
  · obtain ⟨n, q⟩ := pick vs H Q E hsp
    exact (h n).run A outer s H args us vs Q E hr he hb hv q
theorem FnOk.spec1 {rm : Rm} {ps : List Str} {k : Nat} {F F' : List D → R D} (h : FnOk P w K mg base (L2.CX P w) k f fd ps (spF K mg ms rm F)) (hs : ∀ ds, F' ds = .bad ∨ F ds = F' ds) :
    FnOk P w K mg base (L2.CX P w) k f fd ps (spF K mg ms rm F') := FnOk.spec (F := fun _ => F) (fun _ => h) fun ds => (hs ds).elim .inl fun e => .inr ⟨0, e⟩
end
end L2.VL
set_option Elab.async false
set_option linter.all false
set_option maxRecDepth 100000
set_option maxHeartbeats 4000000
namespace L2.VL
open PySem PySem.Spec PyProof.Rows

theorem or_op {X : Cx} {f : Value → Value → Sem Value} {r r' : R2} (h : OpR X f r) (h' : OpR X f r') : OpR X f (fun x y H Q => r x y H Q ∨ r' x y H Q) := by
  intro pins s σ H x y v u Q I rx ry q
  rcases q with q | q
  · exact h pins s σ H x y v u Q I rx ry q
  · exact h' pins s σ H x y v u Q I rx ry q
/-! ### whole numbers -/
def gI (h : Int → Int → Option D) : D → D → Option D
  | .int i, .int j => h i j
  | _, _ => none
section
variable {K : PySem.W.Frag}
theorem does_I {C : Int → Int → Prop} {gv : Int → Int → V} {h : Int → Int → Option D} (hh : ∀ i j d, h i j = some d → C i j ∧ ∀ B, Rep false K B (gv i j) d) : Does2 K (rI C gv) (gI h) := by
  intro H x y d1 d2 d Q r1 r2 e q
  cases r1 with
  | int i =>
    cases r2 with
    | int j =>
      obtain ⟨hc, hr⟩ := hh i j d e
      exact ⟨i, j, rfl, rfl, hc, q _ hr⟩
    | _ => exact absurd e (by simp [gI])
  | _ => exact absurd e (by simp [gI])
theorem does_I0 {gv : Int → Int → V} {h : Int → Int → Option D} (hh : ∀ i j d, h i j = some d → ∀ B, Rep false K B (gv i j) d) : Does2 K (rI0 gv) (gI h) := by
  intro H x y d1 d2 d Q r1 r2 e q
  cases r1 with
  | int i =>
    cases r2 with
    | int j => exact ⟨i, j, rfl, rfl, q _ (hh i j d e)⟩
    | _ => exact absurd e (by simp [gI])
  | _ => exact absurd e (by simp [gI])
end
instance decMulOk (i j : Int) : Decidable (IntMulOk i j) := by
  unfold IntMulOk
  infer_instance
instance decCPow (i j : Int) : Decidable (CPow i j) := by
  unfold CPow
  infer_instance
instance decCShl (i j : Int) : Decidable (CShl i j) := by
  unfold CShl
  infer_instance
instance decCDivP (i j : Int) : Decidable (CDivP i j) := by
  unfold CDivP
  infer_instance
def gSub : D → D → Option D := gI fun i j => some (.int (i - j))
def gMul : D → D → Option D := gI fun i j => if IntMulOk i j then some (.int (i * j)) else none
def gFdiv : D → D → Option D := gI fun i j => if CDivP i j then some (.int (i / j)) else none
def gMod : D → D → Option D := gI fun i j => if 0 < j then some (.int (i % j)) else none
def gPow : D → D → Option D := gI fun i j => if CPow i j then some (.int (i ^ j.toNat)) else none
def gShl : D → D → Option D := gI fun i j => if CShl i j then some (.int (i * 2 ^ j.toNat)) else none
def gShr : D → D → Option D := gI fun i j => if 0 ≤ j then some (.int (i / 2 ^ j.toNat)) else none
def gBitAnd : D → D → Option D := gI fun i j => some (.int (Builtin.bitAnd i j))
def gLt : D → D → Option D := gI fun i j => some (.bl (decide (i < j)))
def gLe : D → D → Option D := gI fun i j => some (.bl (decide (i ≤ j)))
def gGt : D → D → Option D := gI fun i j => some (.bl (decide (j < i)))
def gGe : D → D → Option D := gI fun i j => some (.bl (decide (j ≤ i)))
/-- + of whole numbers and of texts -/
def gAdd : D → D → Option D
  | .int i, .int j => some (.int (i + j))
  | .str x, .str y => if x.length + y.length ≤ sizeLine then some (.str (x ++ y)) else none
  | _, _ => none
@[simp] theorem gSub_int (i j : Int) : gSub (.int i) (.int j) = some (.int (i - j)) := rfl
@[simp] theorem gMul_int (i j : Int) : gMul (.int i) (.int j) = if IntMulOk i j then some (.int (i * j)) else none := rfl
@[simp] theorem gFdiv_int (i j : Int) : gFdiv (.int i) (.int j) = if CDivP i j then some (.int (i / j)) else none := rfl
@[simp] theorem gMod_int (i j : Int) : gMod (.int i) (.int j) = if 0 < j then some (.int (i % j)) else none := rfl
@[simp] theorem gPow_int (i j : Int) : gPow (.int i) (.int j) = if CPow i j then some (.int (i ^ j.toNat)) else none := rfl
@[simp] theorem gShl_int (i j : Int) : gShl (.int i) (.int j) = if CShl i j then some (.int (i * 2 ^ j.toNat)) else none := rfl
@[simp] theorem gShr_int (i j : Int) : gShr (.int i) (.int j) = if 0 ≤ j then some (.int (i / 2 ^ j.toNat)) else none := rfl
@[simp] theorem gBitAnd_int (i j : Int) : gBitAnd (.int i) (.int j) = some (.int (Builtin.bitAnd i j)) := rfl
@[simp] theorem gLt_int (i j : Int) : gLt (.int i) (.int j) = some (.bl (decide (i < j))) := rfl
@[simp] theorem gLe_int (i j : Int) : gLe (.int i) (.int j) = some (.bl (decide (i ≤ j))) := rfl
@[simp] theorem gGt_int (i j : Int) : gGt (.int i) (.int j) = some (.bl (decide (j < i))) := rfl
@[simp] theorem gGe_int (i j : Int) : gGe (.int i) (.int j) = some (.bl (decide (j ≤ i))) := rfl
@[simp] theorem gAdd_int (i j : Int) : gAdd (.int i) (.int j) = some (.int (i + j)) := rfl
@[simp] theorem gAdd_str (x y : Str) : gAdd (.str x) (.str y) = if x.length + y.length ≤ sizeLine then some (.str (x ++ y)) else none := rfl
section
variable {X : Cx}
theorem op_mulOk : OpR X (binaryOp .Mult) (rI IntMulOk fun i j => .int (i * j)) := opI fun _ _ _ _ _ _ _ hc q => mul_int q hc
theorem iop_mulOk : OpR X (inplaceOp .Mult) (rI IntMulOk fun i j => .int (i * j)) := opI fun _ _ _ _ _ _ _ hc q => imul_int q hc
theorem op_fdivP : OpR X (binaryOp .FloorDiv) (rI CDivP fun i j => .int (i / j)) := opI fun i j _ _ _ _ _ hc q => by
  have h1 : (0 : Int) < j := hc.1
  exact floordiv_int (by omega) (by rw [Int.fdiv_eq_ediv_of_nonneg i (by omega)]; exact q) (.inl hc.2)
variable {K : PySem.W.Frag}
theorem d_sub : Does2 K (rI0 fun i j => .int (i - j)) gSub := does_I0 fun i j d e B => by cases e; exact .int _
theorem d_mul : Does2 K (rI IntMulOk fun i j => .int (i * j)) gMul := does_I fun i j d e => by
  by_cases h : IntMulOk i j
  · rw [if_pos h] at e; cases e; exact ⟨h, fun _ => .int _⟩
  · rw [if_neg h] at e; cases e
theorem d_fdiv : Does2 K (rI CDivP fun i j => .int (i / j)) gFdiv := does_I fun i j d e => by
  by_cases h : CDivP i j
  · rw [if_pos h] at e; cases e; exact ⟨h, fun _ => .int _⟩
  · rw [if_neg h] at e; cases e
theorem d_mod : Does2 K (rI (fun _ j => 0 < j) fun i j => .int (i % j)) gMod := does_I fun i j d e => by
  by_cases h : 0 < j
  · rw [if_pos h] at e; cases e; exact ⟨h, fun _ => .int _⟩
  · rw [if_neg h] at e; cases e
theorem d_pow : Does2 K (rI CPow fun i j => .int (i ^ j.toNat)) gPow := does_I fun i j d e => by
  by_cases h : CPow i j
  · rw [if_pos h] at e; cases e; exact ⟨h, fun _ => .int _⟩
  · rw [if_neg h] at e; cases e
theorem d_shl : Does2 K (rI CShl fun i j => .int (i * 2 ^ j.toNat)) gShl := does_I fun i j d e => by
  by_cases h : CShl i j
  · rw [if_pos h] at e; cases e; exact ⟨h, fun _ => .int _⟩
  · rw [if_neg h] at e; cases e
theorem d_shr : Does2 K (rI (fun _ j => 0 ≤ j) fun i j => .int (i / 2 ^ j.toNat)) gShr := does_I fun i j d e => by
  by_cases h : 0 ≤ j
  · rw [if_pos h] at e; cases e; exact ⟨h, fun _ => .int _⟩
  · rw [if_neg h] at e; cases e
theorem d_and : Does2 K (rI0 fun i j => .int (Builtin.bitAnd i j)) gBitAnd := does_I0 fun i j d e B => by cases e; exact .int _
theorem d_lt : Does2 K (rI0 fun i j => .bl (decide (i < j))) gLt := does_I0 fun i j d e B => by cases e; exact .bl _
theorem d_le : Does2 K (rI0 fun i j => .bl (decide (i ≤ j))) gLe := does_I0 fun i j d e B => by cases e; exact .bl _
theorem d_gt : Does2 K (rI0 fun i j => .bl (decide (j < i))) gGt := does_I0 fun i j d e B => by cases e; exact .bl _
theorem d_ge : Does2 K (rI0 fun i j => .bl (decide (j ≤ i))) gGe := does_I0 fun i j d e B => by cases e; exact .bl _
def rAddF : R2 := fun x y H Q => rI0 (fun i j => .int (i + j)) x y H Q ∨ ∃ a b, x = .str a ∧ y = .str b ∧ a.length + b.length ≤ sizeLine ∧ Q (.str (a ++ b)) H
theorem op_addF : OpR X (binaryOp .Add) rAddF := or_op op_add (by
  intro pins s σ H x y v u Q I rx ry h
  obtain ⟨a, b, e1, e2, hz, q⟩ := h
  exact op_add_str pins s σ H x y v u Q I rx ry ⟨a, b, e1, e2, hz, q⟩)
theorem d_add : Does2 K rAddF gAdd := by
  intro H x y d1 d2 d Q r1 r2 e q
  cases r1 with
  | int i =>
    cases r2 with
    | int j => cases e; exact .inl ⟨i, j, rfl, rfl, q _ fun _ => .int _⟩
    | _ => exact absurd e (by simp [gAdd])
  | str a =>
    cases r2 with
    | str b =>
      have e : (if a.length + b.length ≤ sizeLine then some (D.str (a ++ b)) else none) = some d := e
      by_cases h : a.length + b.length ≤ sizeLine
      · rw [if_pos h] at e; cases e; exact .inr ⟨a, b, rfl, rfl, h, q _ fun _ => .str _⟩
      · rw [if_neg h] at e; cases e
    | _ => exact absurd e (by simp [gAdd])
  | _ => exact absurd e (by simp [gAdd])
/-! ### minus -/
def negD : D → R D
  | .int i => .ok (.int (-i))
  | _ => .bad
@[simp] theorem negD_int (i : Int) : negD (.int i) = .ok (.int (-i)) := rfl
@[simp] def eNeg (f : List D → R D) (e : List D) : R D := (f e).bind fun d => negD d
theorem ve_neg {G : List Md} {W : WX} {pos : Pos} {a : Expr} {f : List D → R D} {m : Tg} (ha : PE X a (vE X.K X.mg G W m f)) : PE X (.UnaryOp .USub a pos) (vE X.K X.mg G W .im (eNeg f)) := by
  refine pe_weak (pe_un un_neg ha) fun sg H Q ⟨B0, H0, B, e, S, k⟩ => ?_
  refine seq1 (P := KE X.K X.mg W sg H0 B H Q .im) S k (fun c k => k) (fun k => k) fun B1 H1 x d x1 S1 r1 k1 => ?_
  have r := r1.all x1.s S1.ext.h
  cases r with
  | int i => exact ⟨i, rfl, k1 B1 H1 _ x1 (.int _)⟩
  | _ => exact k1.elim
/-! ### == and != -/
mutual
def D.py : D → PyData
  | .non => .none
  | .bl b => .bool b
  | .int i => .int i
  | .str x => .str x
  | .tup ds => .tuple (D.pys ds)
  | .lst ds => .list (D.pys ds)
  | .dic _ => .dict []
def D.pys : List D → List PyData
  | [] => []
  | d :: ds => D.py d :: D.pys ds
end
mutual
theorem rep_dp {K : PySem.W.Frag} {H : Hp} : ∀ {v : V} {d : D}, Rep true K H v d → d.py.canLay0 = true → Dp K H v d.py
  | _, _, .non, _ => .non
  | _, _, .bl b, _ => .bl b
  | _, _, .int i, _ => .int i
  | _, _, .str x, _ => .str x
  | _, _, .lst h r, c => .lst (.inl h) (reps_dp r (by simpa [D.py, PyData.canLay0] using c))
  | _, _, .kls _ h r, c => .lst h (reps_dp r (by simpa [D.py, PyData.canLay0] using c))
  | _, _, .tup h r, c => .tup (.inl h.rd) (reps_dp r (by simpa [D.py, PyData.canLay0] using c))
  | _, _, .dic _ _, c => by simp [D.py, PyData.canLay0] at c
  | _, _, .dko _ _ _, c => by simp [D.py, PyData.canLay0] at c
theorem reps_dp {K : PySem.W.Frag} {H : Hp} : ∀ {vs : List V} {ds : List D}, Reps true K H vs ds → PyData.canLayAll0 (D.pys ds) = true → DpAll K H vs (D.pys ds)
  | _, _, .nil, _ => .nil
  | _, _, .cons h r, c => by
    rw [D.pys, PyData.canLayAll0, Bool.and_eq_true] at c
    rw [D.pys]
    exact .cons (rep_dp h c.1) (reps_dp r c.2)
end
def scalD : D → D → Bool
  | .non, .non => true | .non, .int _ => true | .int _, .non => true | .non, .bl _ => true | .bl _, .non => true | .non, .str _ => true | .str _, .non => true
  | .int _, .int _ => true | .bl _, .bl _ => true | .str _, .str _ => true
  | .int _, .str _ => true | .str _, .int _ => true | .bl _, .str _ => true | .str _, .bl _ => true
  | _, _ => false
def eqF : D → D → Bool
  | .non, .non => true
  | .int i, .int j => decide (i = j)
  | .bl i, .bl j => decide (i = j)
  | .str i, .str j => decide (i = j)
  | _, _ => false
def eqD (a b : D) : Option Bool := if scalD a b then some (eqF a b) else if SeqAt.shaped a.py && SeqAt.shaped b.py then some (PyData.eqv a.py b.py) else none
@[simp] theorem eqD_int (i j : Int) : eqD (.int i) (.int j) = some (decide (i = j)) := rfl
@[simp] theorem eqD_str (i j : Str) : eqD (.str i) (.str j) = some (decide (i = j)) := rfl
@[simp] theorem eqD_bl (i j : Bool) : eqD (.bl i) (.bl j) = some (decide (i = j)) := rfl
@[simp] def gEq (a b : D) : Option D := (eqD a b).map .bl
@[simp] def gNe (a b : D) : Option D := (eqD a b).map fun c => .bl (!c)
def rEqA (K : PySem.W.Frag) : R2 := fun x y H Q => rEq x y H Q ∨ rEqD K x y H Q
def rNeA (K : PySem.W.Frag) : R2 := fun x y H Q => rNe x y H Q ∨ rNeD K x y H Q
theorem op_eqA {k : Nat} (hr : Room k X.A) : OpR X (compareOp .Eq) (rEqA X.K) := or_op op_eq (op_eqD hr.units)
theorem op_neA {k : Nat} (hr : Room k X.A) : OpR X (compareOp .NotEq) (rNeA X.K) := or_op op_ne (op_neD hr.units)
theorem scal_of {H : Hp} {x y : V} {a b : D} (r1 : Rep true K H x a) (r2 : Rep true K H y b) (h : scalD a b = true) : scal x y = true ∧ decide (x = y) = eqF a b := by
  cases r1 <;> cases r2 <;> first
    | exact (Bool.false_ne_true h).elim
    | (refine ⟨rfl, ?_⟩; simp [eqF])
theorem d_eq : Does2 K (rEqA K) gEq := by
  intro H x y a b d Q r1 r2 e q
  unfold gEq eqD at e
  by_cases h : scalD a b = true
  · rw [if_pos h] at e
    obtain ⟨h1, h2⟩ := scal_of r1 r2 h
    cases e
    refine .inl ⟨h1, ?_⟩
    rw [h2]
    exact q _ fun _ => .bl _
  · rw [if_neg h] at e
    by_cases h2 : (SeqAt.shaped a.py && SeqAt.shaped b.py) = true
    · rw [if_pos h2] at e
      rw [Bool.and_eq_true] at h2
      cases e
      exact .inr ⟨_, _, rep_dp r1 (SeqAt.canLay_of_shaped h2.1), rep_dp r2 (SeqAt.canLay_of_shaped h2.2), h2.1, h2.2, q _ fun _ => .bl _⟩
    · rw [if_neg h2] at e; cases e
theorem d_ne : Does2 K (rNeA K) gNe := by
  intro H x y a b d Q r1 r2 e q
  unfold gNe eqD at e
  by_cases h : scalD a b = true
  · rw [if_pos h] at e
    obtain ⟨h1, h2⟩ := scal_of r1 r2 h
    cases e
    refine .inl ⟨h1, ?_⟩
    rw [h2]
    exact q _ fun _ => .bl _
  · rw [if_neg h] at e
    by_cases h2 : (SeqAt.shaped a.py && SeqAt.shaped b.py) = true
    · rw [if_pos h2] at e
      rw [Bool.and_eq_true] at h2
      cases e
      exact .inr ⟨_, _, rep_dp r1 (SeqAt.canLay_of_shaped h2.1), rep_dp r2 (SeqAt.canLay_of_shaped h2.2), h2.1, h2.2, q _ fun _ => .bl _⟩
    · rw [if_neg h2] at e; cases e
/-! ### is None, is not None; is False .. -/
def isNonD : D → Bool
  | .non => true
  | _ => false
def gIs : D → D → Option D
  | a, .non => some (.bl (isNonD a))
  | _, _ => none
def gIsnt : D → D → Option D
  | a, .non => some (.bl (!isNonD a))
  | _, _ => none
@[simp] theorem gIs_non : gIs .non .non = some (.bl true) := rfl
@[simp] theorem gIs_int (i : Int) : gIs (.int i) .non = some (.bl false) := rfl
@[simp] theorem gIs_tup (i : List D) : gIs (.tup i) .non = some (.bl false) := rfl
@[simp] theorem gIs_lst (i : List D) : gIs (.lst i) .non = some (.bl false) := rfl
@[simp] theorem gIs_str (i : Str) : gIs (.str i) .non = some (.bl false) := rfl
@[simp] theorem gIsnt_non : gIsnt .non .non = some (.bl false) := rfl
@[simp] theorem gIsnt_int (i : Int) : gIsnt (.int i) .non = some (.bl true) := rfl
@[simp] theorem gIsnt_tup (i : List D) : gIsnt (.tup i) .non = some (.bl true) := rfl
@[simp] theorem gIsnt_lst (i : List D) : gIsnt (.lst i) .non = some (.bl true) := rfl
@[simp] theorem gIsnt_str (i : Str) : gIsnt (.str i) .non = some (.bl true) := rfl
theorem non_of {H : Hp} {x : V} {a : D} (r : Rep true K H x a) : decide (x = .non) = isNonD a := by
  cases r <;> simp [isNonD]
theorem d_is : Does2 K (fun x y H Q => y = .non ∧ Q (.bl (decide (x = .non))) H) gIs := by
  intro H x y a b d Q r1 r2 e q
  cases r2 with
  | non =>
    have e : some (D.bl (isNonD a)) = some d := by cases a <;> exact e
    cases e
    refine ⟨rfl, ?_⟩
    rw [non_of r1]
    exact q _ fun _ => .bl _
  | _ => exact absurd e (by cases a <;> simp [gIs])
theorem d_isnt : Does2 K (fun x y H Q => y = .non ∧ Q (.bl (!decide (x = .non))) H) gIsnt := by
  intro H x y a b d Q r1 r2 e q
  cases r2 with
  | non =>
    have e : some (D.bl (!isNonD a)) = some d := by cases a <;> exact e
    cases e
    refine ⟨rfl, ?_⟩
    rw [non_of r1]
    exact q _ fun _ => .bl _
  | _ => exact absurd e (by cases a <;> simp [gIsnt])
end

/-! ### items -/
def elT : Tg → Tg
  | .im => .im | .ar => .ar | .lo => .lo | .fr => .im | .oc => .im
def atD : D → D → R D
  | .lst ds, .int k => ofO (atI ds k)
  | .tup ds, .int k => ofO (atI ds k)
  | .str z, .int k => if z.length ≤ sizeLine then ofO ((atI z.cps.toList k).map fun c => .str ⟨#[c]⟩) else .bad
  | _, _ => .bad
@[simp] theorem atD_lst (ds : List D) (k : Int) : atD (.lst ds) (.int k) = ofO (atI ds k) := rfl
@[simp] theorem atD_tup (ds : List D) (k : Int) : atD (.tup ds) (.int k) = ofO (atI ds k) := rfl
@[simp] theorem atD_str (z : Str) (k : Int) : atD (.str z) (.int k) = if z.length ≤ sizeLine then ofO ((atI z.cps.toList k).map fun c => .str ⟨#[c]⟩) else .bad := rfl
@[simp] def eIx (fa fb : List D → R D) (e : List D) : R D := (fa e).bind fun d => (fb e).bind fun i => atD d i
section
variable {K : PySem.W.Frag} {H0 H B H' : Hp}
/-- a list's or tuple's items, by their tag -/
theorem RepT.lst_at {m : Tg} {v : V} {ds : List D} (r : RepT K H0 H B H' m v (.lst ds)) (s : Same B H') (s0 : Same H0 H') : ∃ p vs, v = .ref p ∧ SqL K H' p vs ∧ vs.length = ds.length ∧ ∀ (j : Nat) d, ds[j]? = some d → ∃ x, vs[j]? = some x ∧ RepT K H0 H B H' (elT m) x d := by
  cases m with
  | im =>
    obtain ⟨a, vs, rfl, h, q⟩ := Rep.sq r
    exact ⟨_, _, rfl, s.seq h, q.length, fun j d e => q.get e⟩
  | ar =>
    obtain ⟨a, vs, rfl, h, q⟩ := Rep.sq r
    exact ⟨_, _, rfl, s0.seq h, q.length, fun j d e => q.get e⟩
  | lo =>
    obtain ⟨a, vs, rfl, h, q⟩ := Rep.sq r
    exact ⟨_, _, rfl, h, q.length, fun j d e => q.get e⟩
  | fr =>
    obtain ⟨p, rfl, _, _, vs, h, q⟩ := r
    exact ⟨p, vs, rfl, SqL.of h, q.length, fun j d e => q.get e⟩
  | oc =>
    obtain ⟨p, rfl, vs, h, q⟩ := r
    exact ⟨p, vs, rfl, SqL.of h, q.length, fun j d e => q.get e⟩
theorem RepT.tup_at {m : Tg} {v : V} {ds : List D} (r : RepT K H0 H B H' m v (.tup ds)) (s : Same B H') (s0 : Same H0 H') : ∃ p vs, v = .ref p ∧ Rd H' p (.tup vs) ∧ vs.length = ds.length ∧ ∀ (j : Nat) d, ds[j]? = some d → ∃ x, vs[j]? = some x ∧ RepT K H0 H B H' (elT m) x d := by
  cases m with
  | im =>
    cases r with
    | tup h q => exact ⟨_, _, rfl, same_rd s h.rd, q.length, fun j d e => q.get e⟩
  | ar =>
    cases r with
    | tup h q => exact ⟨_, _, rfl, same_rd s0 h.rd, q.length, fun j d e => q.get e⟩
  | lo =>
    cases r with
    | tup h q => exact ⟨_, _, rfl, h.rd, q.length, fun j d e => q.get e⟩
  | fr =>
    obtain ⟨p, rfl, _, _, h⟩ := r
    exact h.elim
  | oc =>
    obtain ⟨p, rfl, h⟩ := r
    exact h.elim
theorem atI_of {α β : Type} {xs : List α} {ys : List β} {k : Int} {y : β} (hl : xs.length = ys.length) (h : atI ys k = some y) : ∃ j : Nat, ys[j]? = some y ∧ ∀ x, xs[j]? = some x → atI xs k = some x := by
  unfold atI at h ⊢
  cases e : ixN ys.length k with
  | none => rw [e] at h; cases h
  | some j =>
    rw [e] at h
    refine ⟨j, h, fun x hx => ?_⟩
    rw [hl, e]
    exact hx
theorem RepT.flat {m : Tg} {v : V} {d : D} (hm : m = .im ∨ m = .ar ∨ m = .lo) (h : ∀ B, Rep false K B v d) : RepT K H0 H B H' m v d := by
  rcases hm with rfl | rfl | rfl
  · exact h _
  · exact (h _).wide
  · exact (h _).wide
end
section
variable {X : Cx} {G : List Md} {W : WX} {pos : Pos} {a b : Expr} {fa fb : List D → R D} {ma mb : Tg}
theorem ve_item (ha : PE X a (vE X.K X.mg G W ma fa)) (hb : PE X b (vE X.K X.mg G W mb fb)) (hp : PlainIx b := by exact fun _ _ => rfl) : PE X (.Subscript a b pos) (vE X.K X.mg G W (elT ma) (eIx fa fb)) := by
  refine pe_weak (pe_ix ix_seq ha hb hp) fun sg H Q h => ?_
  refine seq2 (kk := fun d i => atD d i) h fun B0 H0 B e B2 H2 x y d1 d2 S S2 x2 r1 r2 k => ?_
  have s0 : Same H0 H2 := S2.ext.h
  have q2 := r2.all x2.s s0
  cases d2 with
  | int i =>
    cases q2
    cases d1 with
    | lst ds =>
      obtain ⟨p, vs, rfl, hp, hl, hi⟩ := r1.lst_at x2.s s0
      cases ea : atI ds i with
      | none => simp only [atD, ea, ofO] at k; exact k.elim
      | some d =>
        simp only [atD, ea, ofO] at k
        obtain ⟨j, hj, hx⟩ := atI_of hl ea
        obtain ⟨v, hv, rv⟩ := hi j d hj
        exact .inl ⟨p, vs, i, v, rfl, rfl, hp, hx v hv, k B2 H2 v x2 rv⟩
    | tup ds =>
      obtain ⟨p, vs, rfl, hp, hl, hi⟩ := r1.tup_at x2.s s0
      cases ea : atI ds i with
      | none => simp only [atD, ea, ofO] at k; exact k.elim
      | some d =>
        simp only [atD, ea, ofO] at k
        obtain ⟨j, hj, hx⟩ := atI_of hl ea
        obtain ⟨v, hv, rv⟩ := hi j d hj
        exact .inr (.inl ⟨p, vs, i, v, rfl, rfl, .inl hp, hx v hv, k B2 H2 v x2 rv⟩)
    | str z =>
      have q1 := r1.all x2.s s0
      cases q1
      simp only [atD] at k
      by_cases hz : z.length ≤ sizeLine
      · rw [if_pos hz] at k
        cases ea : atI z.cps.toList i with
        | none => rw [ea] at k; exact k.elim
        | some c =>
          rw [ea] at k
          refine .inr (.inr ⟨z, i, c, rfl, rfl, hz, ea, k B2 H2 _ x2 (RepT.flat ?_ fun _ => .str _)⟩)
          cases ma <;> simp [elT]
      · rw [if_neg hz] at k; exact k.elim
    | _ => simp only [atD] at k; exact k.elim
  | _ =>
    cases d1 <;> (simp only [atD] at k; exact k.elim)
end

/-! ### displays -/
@[simp] def eTup (fs : List D → R (List D)) (e : List D) : R D := (fs e).bind fun ds => if ds.length ≤ sizeLine then .ok (.tup ds) else .bad
@[simp] def eLst (fs : List D → R (List D)) (e : List D) : R D := (fs e).bind fun ds => if ds.length ≤ sizeLine then .ok (.lst ds) else .bad
def allIm : List Tg → Bool
  | [] => true
  | .im :: ts => allIm ts
  | _ => false
theorem reps_im {K : PySem.W.Frag} {H0 H B H' : Hp} : ∀ {ts : List Tg} {vs : List V} {ds : List D}, allIm ts = true → RepTs K H0 H B H' ts vs ds → Reps false K B vs ds
  | [], [], [], _, _ => .nil
  | .im :: ts, _ :: _, _ :: _, h, ⟨r, rs⟩ => .cons r (reps_im (ts := ts) h rs)
section
variable {X : Cx} {G : List Md} {W : WX} {pos : Pos} {es : List Expr} {fs : List D → R (List D)} {ts : List Tg}
theorem ve_tup {x1} (h : PA X es (vA X.K X.mg G W ts fs)) (hi : allIm ts = true := by rfl) : PE X (.Tuple es x1 pos) (vE X.K X.mg G W .im (eTup fs)) := by
  refine pe_weak (pe_tupF h) fun sg H Q ⟨B0, H0, B, e, S, k⟩ => ⟨B0, H0, B, e, S, ?_⟩
  unfold eTup at k
  cases ef : fs e with
  | bad => rw [ef] at k; exact k.elim
  | ex c => rw [ef] at k; exact k
  | ok ds =>
    rw [ef, R.bind_ok] at k
    intro B1 H1 vs x1 r1
    have rs := reps_im hi r1
    by_cases hz : ds.length ≤ sizeLine
    · rw [if_pos hz] at k
      refine ⟨by rw [rs.length]; exact hz, fun p o hp ho => ?_⟩
      have x2 : Ext B1 H1 (upd B1 p (.frz o (.tup vs))) (upd H1 p (.frz o (.tup vs))) := .newB x1.s hp
      exact k _ _ _ (x1.trans x2) (.tup ⟨o, upd_same, ho⟩ (rs.mono x2.b))
    · rw [if_neg hz] at k; exact k.elim
theorem ve_lst (h : PA X es (vA X.K X.mg G W ts fs)) (hi : allIm ts = true := by rfl) : PE X (.List es pos) (vE X.K X.mg G W .fr (eLst fs)) := by
  refine pe_weak (pe_lst h) fun sg H Q ⟨B0, H0, B, e, S, k⟩ => ⟨B0, H0, B, e, S, ?_⟩
  unfold eLst at k
  cases ef : fs e with
  | bad => rw [ef] at k; exact k.elim
  | ex c => rw [ef] at k; exact k
  | ok ds =>
    rw [ef, R.bind_ok] at k
    intro B1 H1 vs x1 r1
    have rs := reps_im hi r1
    by_cases hz : ds.length ≤ sizeLine
    · rw [if_pos hz] at k
      refine ⟨by rw [rs.length]; exact hz, fun p hp => ?_⟩
      have x2 : Ext B1 H1 B1 (upd H1 p (.lst vs)) := .newH x1.s hp
      exact k _ _ _ (x1.trans x2) ⟨p, rfl, x1.h.free hp, x1.s.free hp, vs, upd_same, rs⟩
    · rw [if_neg hz] at k; exact k.elim
end

/-! ### calls of built-ins with flat answers -/
def DoesN (K : PySem.W.Frag) (r : List V → Hp → VK → Prop) (g : List D → Option D) : Prop := ∀ (H : Hp) (vs : List V) (ds : List D) (d : D) (Q : VK), Reps true K H vs ds → g ds = some d → (∀ v, (∀ B, Rep false K B v d) → Q v H) → r vs H Q
theorem reps_all {K : PySem.W.Frag} {H0 H B H' : Hp} (s : Same B H') (s0 : Same H0 H') : ∀ {ts : List Tg} {vs : List V} {ds : List D}, RepTs K H0 H B H' ts vs ds → Reps true K H' vs ds
  | [], [], [], _ => .nil
  | _ :: _, _ :: _, _ :: _, ⟨r, rs⟩ => .cons (r.all s s0) (reps_all s s0 rs)
@[simp] def eB (g : List D → Option D) (fs : List D → R (List D)) (e : List D) : R D := (fs e).bind fun ds => ofO (g ds)
section
variable {X : Cx} {G : List Md} {W : WX} {p pos : Pos} {a : Expr} {es : List Expr} {fs : List D → R (List D)} {ts : List Tg} {r : List V → Hp → VK → Prop} {g : List D → Option D} {x : Str}
theorem callN_flat {K : PySem.W.Frag} {mg : Str → Option Value} (hd : DoesN K r g) (sg : St) (H : Hp) (Q : VK) (h : vE K mg G W .im (eB g fs) sg H Q) : vA K mg G W ts fs sg H fun vs H1 => r vs H1 Q := by
  obtain ⟨B0, H0, B, e, S, k⟩ := h
  refine ⟨B0, H0, B, e, S, ?_⟩
  unfold eB at k
  cases ef : fs e with
  | bad => rw [ef] at k; exact k.elim
  | ex c => rw [ef] at k; exact k
  | ok ds =>
    rw [ef, R.bind_ok] at k
    intro B1 H1 vs x1 r1
    cases eg : g ds with
    | none => rw [eg] at k; exact k.elim
    | some d =>
      rw [eg] at k
      exact hd H1 vs ds d Q (reps_all x1.s (S.ext.h.trans x1.h) r1) eg fun v hv => k B1 H1 v x1 (hv _)
theorem ve_blt {id : String} (hc : CallR X (.builtin id) r) (hd : DoesN X.K r g) (hm : X.mg x = none) (hv : bootBuiltins x = some (.builtin id)) (ha : PA X (a :: es) (vA X.K X.mg G W ts fs)) (hg : Gl X x := by rfl) (hn : x ≠ "__name__" := by decide) (hdb : (x == ("__debug__" : Str)) = false := by decide)
    (he : starEach (a :: es) X.env = (false, eval a X.env) :: starEach es X.env := by rfl) (hpl : (backTo pos (starEach es X.env)).any (·.1) = false := by rfl) : PE X (.Call (.Name x p) (a :: es) [] pos) (vE X.K X.mg G W .im (eB g fs)) :=
  pe_weak (pe_callB hc hg hm hv ha hn hdb he hpl) (callN_flat hd)
theorem ve_bty {T : String} (hc : CallR X (.type T) r) (hd : DoesN X.K r g) (hm : X.mg x = none) (hv : bootBuiltins x = some (.type T)) (ha : PA X (a :: es) (vA X.K X.mg G W ts fs)) (hg : Gl X x := by rfl) (hn : x ≠ "__name__" := by decide) (hdb : (x == ("__debug__" : Str)) = false := by decide)
    (he : starEach (a :: es) X.env = (false, eval a X.env) :: starEach es X.env := by rfl) (hpl : (backTo pos (starEach es X.env)).any (·.1) = false := by rfl) : PE X (.Call (.Name x p) (a :: es) [] pos) (vE X.K X.mg G W .im (eB g fs)) :=
  pe_weak (pe_callTy hc hg hm hv ha hn hdb he hpl) (callN_flat hd)
end
/-- len of a list, a tuple, a text -/
def gLen : List D → Option D
  | [.lst ds] => some (.int ds.length)
  | [.tup ds] => some (.int ds.length)
  | [.str z] => if z.length ≤ sizeLine then some (.int z.length) else none
  | _ => none
@[simp] theorem gLen_lst (ds : List D) : gLen [.lst ds] = some (.int ds.length) := rfl
@[simp] theorem gLen_tup (ds : List D) : gLen [.tup ds] = some (.int ds.length) := rfl
@[simp] theorem gLen_str (z : Str) : gLen [.str z] = if z.length ≤ sizeLine then some (.int z.length) else none := rfl
section
variable {K : PySem.W.Frag}
theorem reps1 {c : Bool} {H : Hp} {vs : List V} {d : D} (h : Reps c K H vs [d]) : ∃ v, vs = [v] ∧ Rep c K H v d := by
  cases h with
  | cons h r =>
    cases r
    exact ⟨_, rfl, h⟩
theorem reps2 {c : Bool} {H : Hp} {vs : List V} {d d' : D} (h : Reps c K H vs [d, d']) : ∃ v v', vs = [v, v'] ∧ Rep c K H v d ∧ Rep c K H v' d' := by
  cases h with
  | cons h r =>
    obtain ⟨v', rfl, h'⟩ := reps1 r
    exact ⟨_, _, rfl, h, h'⟩
theorem d_len : DoesN K (fun xs H Q => ∃ x n, xs = [x] ∧ LenV K x H n ∧ Q (.int n) H) gLen := by
  intro H vs ds d Q r e q
  unfold gLen at e
  split at e
  · cases e
    obtain ⟨v, rfl, h⟩ := reps1 r
    obtain ⟨a, us, rfl, h, q'⟩ := h.sq
    exact ⟨_, _, rfl, .inl ⟨_, h, rfl⟩, by rw [q'.length]; exact q _ fun _ => .int _⟩
  · cases e
    obtain ⟨v, rfl, h⟩ := reps1 r
    cases h with
    | tup h q' => exact ⟨_, _, rfl, .inr ⟨_, .inl h.rd, rfl⟩, by rw [q'.length]; exact q _ fun _ => .int _⟩
  · obtain ⟨v, rfl, h⟩ := reps1 r
    cases h
    split at e
    · cases e
      exact ⟨_, _, rfl, ⟨by assumption, rfl⟩, q _ fun _ => .int _⟩
    · cases e
  · cases e
end
/-! ### divmod -/
def gDivmod : List D → R D
  | [.int i, .int j] => if CDivP i j then .ok (.tup [.int (i / j), .int (i % j)]) else .bad
  | _ => .bad
@[simp] theorem gDivmod_int (i j : Int) : gDivmod [.int i, .int j] = if CDivP i j then .ok (.tup [.int (i / j), .int (i % j)]) else .bad := rfl
section
variable {X : Cx} {G : List Md} {W : WX} {p pos : Pos} {a : Expr} {es : List Expr} {fs : List D → R (List D)} {ts : List Tg}
theorem ve_divmod (hm : X.mg "divmod" = none) (ha : PA X (a :: es) (vA X.K X.mg G W ts fs)) (hg : Gl X "divmod" := by rfl)
    (he : starEach (a :: es) X.env = (false, eval a X.env) :: starEach es X.env := by rfl) (hpl : (backTo pos (starEach es X.env)).any (·.1) = false := by rfl) : PE X (.Call (.Name "divmod" p) (a :: es) [] pos) (vE X.K X.mg G W .im (eCall gDivmod fs)) := by
  refine pe_weak (pe_callB call_divmodF hg hm (by decide +kernel) ha (by decide) (by decide) he hpl) fun sg H Q ⟨B0, H0, B, e, S, k⟩ => ⟨B0, H0, B, e, S, ?_⟩
  unfold eCall at k
  cases ef : fs e with
  | bad => rw [ef] at k; exact k.elim
  | ex c => rw [ef] at k; exact k
  | ok ds =>
    rw [ef, R.bind_ok] at k
    intro B1 H1 vs x1 r1
    have rs := reps_all x1.s (S.ext.h.trans x1.h) r1
    unfold gDivmod at k
    split at k
    · obtain ⟨v, v', rfl, h1, h2⟩ := reps2 rs
      cases h1
      cases h2
      split at k
      · refine ⟨_, _, rfl, by assumption, fun p o hp ho => ?_⟩
        exact k _ _ _ (x1.trans (.newB x1.s hp)) (.tup ⟨o, upd_same, ho⟩ (.cons (.int _) (.cons (.int _) .nil)))
      · exact k.elim
    · exact k.elim
end
/-! ### a, b = e1, e2 -/
def parD (i j : Nat) (e : List D) : List D → R Fl
  | [d1, d2] => .ok (.nx ((e.set i d1).set j d2))
  | _ => .bad
@[simp] theorem parD_two (i j : Nat) (e : List D) (d1 d2 : D) : parD i j e [d1, d2] = .ok (.nx ((e.set i d1).set j d2)) := rfl
@[simp] def sPar (i j : Nat) (fs : List D → R (List D)) (e : List D) : R Fl := (fs e).bind fun ds => parD i j e ds
section
variable {X : Cx} {G : List Md} {W : WX} {rm : Rm} {pos : Pos} {a b : Expr} {fs : List D → R (List D)} {i j : Nat} {x y : Str} {px py pt : Pos} {kt k2 pt2}
theorem vs_par (hc : X.calm = true) (hN : X.N.Nodup) (ha : PA X [a, b] (vA X.K X.mg G W [.im, .im] fs)) (hij : i ≠ j) (hi : X.N[i]? = some x := by rfl) (hj : X.N[j]? = some y := by rfl)
    (hx : X.env.scope.names.lookup x = some .local := by rfl) (hy : X.env.scope.names.lookup y = some .local := by rfl)
    (hw : swappedStores [.Tuple [.Name x px, .Name y py] kt pt] (.Tuple [a, b] k2 pt2) X.env = pure (some [x, y]) := by rfl)
    (hs : swapsWithSole [.Tuple [.Name x px, .Name y py] kt pt] (.Tuple [a, b] k2 pt2) pos.line X.env = pure false := by rfl) :
    PS X (.Assign [.Tuple [.Name x px, .Name y py] kt pt] (.Tuple [a, b] k2 pt2) pos) (vS X.K X.mg G ((G.set i .im).set j .im) W rm (sPar i j fs)) := by
  refine ps_weak (ps_par hc hN hi hj hij hx hy ha hw hs) fun Dn sg H ⟨B0, H0, B, e, S, k⟩ => ⟨B0, H0, B, e, S, ?_⟩
  unfold sPar at k
  cases ef : fs e with
  | bad => rw [ef] at k; exact k.elim
  | ex c => rw [ef] at k; exact ks_ex S k
  | ok ds =>
    rw [ef, R.bind_ok] at k
    intro B1 H1 vs x1 r1
    unfold parD at k
    split at k
    · match vs, r1 with
      | [v1, v2], ⟨r1, r2, _⟩ =>
        refine ⟨v1, v2, rfl, ?_⟩
        have S1 := S.later x1
        exact k _ B1 H1 ((S1.set i (m := .im) r1 (fun z => by cases z)).set j (m := .im) r2 (fun z => by cases z)) x1.b
    · exact k.elim
end
/-! ### isinstance of built-in kinds -/
def tyD : D → String
  | .non => "NoneType" | .bl _ => "bool" | .int _ => "int" | .str _ => "str" | .tup _ => "tuple" | .lst _ => "list" | .dic _ => "dict"
theorem tyx_of {c : Bool} {K : PySem.W.Frag} {H : Hp} {v : V} {d : D} (r : Rep c K H v d) : TyX K H v (.type (tyD d)) := by
  cases r with
  | non => exact .base .non
  | bl b => exact .base (.bl b)
  | int i => exact .base (.int i)
  | str x => exact .base (.str x)
  | lst h _ =>
    rcases h with h | ⟨o, h⟩
    · exact .base (.lst h)
    · exact .base (.frz h)
  | kls _ h _ =>
    rcases h with (h | ⟨o, h⟩) | ⟨o, its, n, h, hc, _⟩
    · exact .base (.lst h)
    · exact .base (.frz h)
    · exact .kList h hc
  | tup h _ =>
    obtain ⟨o, h, _⟩ := h
    exact .fTuple h
  | dic h _ =>
    obtain ⟨o, h⟩ := h
    exact .fDict h
  | dko _ h _ =>
    rcases h with h | ⟨o, h⟩
    · exact .base (.dK h)
    · exact .fDict h
def isiD (T : String) (d : D) : Option Bool := kitB (tyD d) T
@[simp] def eIsi (T : String) (f : List D → R D) (e : List D) : R D := (f e).bind fun d => ofO ((isiD T d).map .bl)
section
variable {X : Cx} {G : List Md} {W : WX} {p p2 pos : Pos} {a : Expr} {f : List D → R D} {m : Tg} {T : Str} {Tn : String}
theorem ve_isi (hm : X.mg "isinstance" = none) (hmT : X.mg T = none) (hT : bootBuiltins T = some (.type Tn)) (ha : PE X a (vE X.K X.mg G W m f)) (hg : Gl X "isinstance" := by rfl) (hgT : Gl X T := by rfl) (hn : T ≠ "__name__" := by decide) (hdT : (T == ("__debug__" : Str)) = false := by decide)
    (he : starEach (a :: [.Name T p2]) X.env = (false, eval a X.env) :: starEach [.Name T p2] X.env := by rfl) (he2 : starEach [.Name T p2] X.env = (false, eval (.Name T p2) X.env) :: starEach [] X.env := by rfl) (hpl : (backTo pos (starEach [.Name T p2] X.env)).any (·.1) = false := by rfl) :
    PE X (.Call (.Name "isinstance" p) [a, .Name T p2] [] pos) (vE X.K X.mg G W .im (eIsi Tn f)) := by
  refine pe_weak (pe_callB call_isi hg hm (by decide +kernel) (pa_cons ha (pa_cons (pe_bltn (v := .ty Tn) hgT hmT hT rfl hn hdT) pa_nil he2) he) (by decide) (by decide) he hpl) fun sg H Q ⟨B0, H0, B, e, S, k⟩ => ?_
  refine seq1 (P := KE X.K X.mg W sg H0 B H Q .im) S k (fun c k => k) (fun k => k) fun B1 H1 x d x1 S1 r1 k1 => ?_
  have r := r1.all x1.s S1.ext.h
  cases ei : isiD Tn d with
  | none => rw [ei] at k1; exact k1.elim
  | some b =>
    rw [ei] at k1
    exact ⟨x, .ty Tn, _, _, b, rfl, .ty Tn, tyx_of r, kit_ty ei, k1 B1 H1 _ x1 (.bl b)⟩
end
end L2.VL
set_option Elab.async false
set_option linter.all false
set_option maxRecDepth 100000
set_option maxHeartbeats 4000000
namespace L2.VL
open PySem PySem.Spec PyProof.Rows
/-! ## the law's end -/
def spLaw (K : PySem.W.Frag) : Sp := fun vs H Q _ => ∃ (a : Addr) (ns : List Int), vs = [.ref a] ∧ ns.length ≤ 63 ∧ (∀ z ∈ ns, Builtin.Int.intBits z ≤ 1048576) ∧ SqL K H a (ns.map V.int) ∧ ∀ H', Q (.bl true) H'
theorem reps_ints {c : Bool} {K : PySem.W.Frag} {B : Hp} : ∀ ns : List Int, Reps c K B (ns.map V.int) (ns.map D.int)
  | [] => .nil
  | n :: ns => .cons (.int n) (reps_ints ns)
theorem law_imp {P : Program} {w : World} {K : PySem.W.Frag} {mg : Str → Option Value} {base : Heap} {k : Nat} {f : Addr} {fd : FuncData} {ps : List Str} {F : List D → R D}
    (hl : ∀ ns : List Int, ns.length ≤ 63 → (∀ z ∈ ns, Builtin.Int.intBits z ≤ 1048576) → F [.lst (ns.map D.int)] = .ok (.bl true))
    (h : FnOk P w K mg base (L2.CX P w) k f fd ps (spF K mg [.ar] .im F)) : FnOk P w K mg base (L2.CX P w) k f fd ps (spLaw K) := by
  refine FnOk.imp h fun vs H Q E hs => ?_
  obtain ⟨a, ns, rfl, h1, h2, hS, q⟩ := hs
  refine ⟨fun _ => none, [.lst (ns.map D.int)], fun b o e => (nomatch e), ⟨.kls rfl hS (reps_ints ns), trivial⟩, ?_⟩
  rw [hl ns h1 h2]
  intro B' H' v x r
  cases r
  exact q H'
theorem cx_false {P : Program} {w : World} {H : Hp} {s : Shared} {e : Value} {s' : Shared} (h : L2.CX P w [] H s (fun _ _ _ => False) e s') : False := by
  obtain ⟨_, _, _, _, _, _, _, _, _, _, _, _, z⟩ := h
  exact z.elim
/-! ## step by step -/
theorem run_seq {g1 g2 : List D → R Fl} {e e' : List D} {r : R D} (h1 : g1 e = .ok (.nx e')) (h2 : (g2 e').bind Fl.fin = r) : (sSeq g1 g2 e).bind Fl.fin = r := by
  unfold sSeq
  rw [h1]
  exact h2
theorem run_ret {g1 g2 : List D → R Fl} {e : List D} {d : D} {r : R D} (h1 : g1 e = .ok (.rt d)) (h2 : R.ok d = r) : (sSeq g1 g2 e).bind Fl.fin = r := by
  unfold sSeq
  rw [h1]
  exact h2
theorem run_end {g1 : List D → R Fl} {e : List D} {d : D} {r : R D} (h1 : g1 e = .ok (.rt d)) (h2 : R.ok d = r) : (g1 e).bind Fl.fin = r := by
  rw [h1]
  exact h2
theorem seq_nx {g1 g2 : List D → R Fl} {e e' : List D} {r : R Fl} (h1 : g1 e = .ok (.nx e')) (h2 : g2 e' = r) : sSeq g1 g2 e = r := by
  unfold sSeq
  rw [h1]
  exact h2
theorem seq_rt {g1 g2 : List D → R Fl} {e : List D} {d : D} {r : R Fl} (h1 : g1 e = .ok (.rt d)) (h2 : .ok (.rt d) = r) : sSeq g1 g2 e = r := by
  unfold sSeq
  rw [h1]
  exact h2
theorem if_t {c : List D → R Bool} {g1 g2 : List D → R Fl} {e : List D} {r : R Fl} (h1 : c e = .ok true) (h2 : g1 e = r) : sIf c g1 g2 e = r := by
  unfold sIf
  rw [h1]
  exact h2
theorem if_f {c : List D → R Bool} {g1 g2 : List D → R Fl} {e : List D} {r : R Fl} (h1 : c e = .ok false) (h2 : g2 e = r) : sIf c g1 g2 e = r := by
  unfold sIf
  rw [h1]
  exact h2
/-! ## data of whole numbers -/
def asInts : List D → Option (List Int)
  | [] => some []
  | .int i :: ds => (asInts ds).map (i :: ·)
  | _ :: _ => none
theorem asInts_map : ∀ ns : List Int, asInts (ns.map D.int) = some ns
  | [] => rfl
  | n :: ns => by
    show (asInts (ns.map D.int)).map (n :: ·) = some (n :: ns)
    rw [asInts_map ns]
    rfl
theorem asInts_eq : ∀ {ds : List D} {ns : List Int}, asInts ds = some ns → ds = ns.map D.int
  | [], ns, h => by cases h; rfl
  | .int i :: ds, ns, h => by
    have h : (asInts ds).map (i :: ·) = some ns := h
    cases e : asInts ds with
    | none => rw [e] at h; cases h
    | some ms =>
      rw [e] at h
      cases h
      rw [asInts_eq e]
      rfl
  | .non :: _, _, h => by cases h
  | .bl _ :: _, _, h => by cases h
  | .str _ :: _, _, h => by cases h
  | .tup _ :: _, _, h => by cases h
  | .lst _ :: _, _, h => by cases h
  | .dic _ :: _, _, h => by cases h
/-! ## sizes -/
theorem mulOk_left {a b : Int} (h1 : -(2 ^ 64) < a) (h2 : a < 2 ^ 64) : IntMulOk a b := .of_left (intBits_le_64 h1 h2)
theorem mulOk_right {a b : Int} (h1 : -(2 ^ 64) < b) (h2 : b < 2 ^ 64) : IntMulOk a b := .of_right (intBits_le_64 h1 h2)
theorem intBits_lt {z : Int} {n : Nat} (h : z.natAbs < 2 ^ n) : Builtin.Int.intBits z ≤ n := PyProof.Rows.intBits_le h
theorem mulOk_bits {a b : Int} {n m : Nat} (ha : a.natAbs < 2 ^ n) (hb : b.natAbs < 2 ^ m) (h : n + m ≤ 134217728) : IntMulOk a b := by
  have h1 := intBits_lt ha
  have h2 := intBits_lt hb
  unfold IntMulOk
  intro z
  rw [Bool.and_eq_true] at z
  have z2 := z.2
  unfold Builtin.Int.intTooBig at z2
  have z3 := of_decide_eq_true z2
  have e : bitsLine = 134217728 := by decide
  rw [e] at z3
  omega
theorem divP_of {a b : Int} (h : 0 < b) (hb : b.natAbs < 2 ^ 9000) : CDivP a b := ⟨h, PyProof.noPylong_of_log2 (PySem.Flt.log2_lt_of (by decide) hb)⟩
theorem divP_small {a b : Int} (h : 0 < b) (hb : b < 1073741824) : CDivP a b := ⟨h, PyProof.noPylong_small (by omega)⟩
/-! short ones -/
@[simp] theorem sz_1 : 1 ≤ sizeLine := by decide
@[simp] theorem sz_2 : 2 ≤ sizeLine := by decide
@[simp] theorem sz_3 : 3 ≤ sizeLine := by decide
@[simp] theorem sz_4 : 4 ≤ sizeLine := by decide
@[simp] theorem sz_5 : 5 ≤ sizeLine := by decide
@[simp] theorem sz_6 : 6 ≤ sizeLine := by decide
@[simp] theorem sz_7 : 7 ≤ sizeLine := by decide
@[simp] theorem sz_8 : 8 ≤ sizeLine := by decide
@[simp] theorem sz_9 : 9 ≤ sizeLine := by decide
@[simp] theorem sz_10 : 10 ≤ sizeLine := by decide
end L2.VL
set_option Elab.async false
set_option linter.all false
set_option maxRecDepth 100000
set_option maxHeartbeats 4000000
namespace L2.VL
open PySem PySem.Spec PyProof.Rows

/-! ## what a loop walks -/
def RepP (K : PySem.W.Frag) (H0 B : Hp) : Pm → V → D → Prop
  | .im, v, d => Rep false K B v d
  | .ar, v, d => Rep true K H0 v d
theorem RepP.mono {K : PySem.W.Frag} {H0 B B' : Hp} {m : Pm} {v : V} {d : D} (r : RepP K H0 B m v d) (s : Same B B') : RepP K H0 B' m v d := by
  cases m with
  | im => exact Rep.mono s r
  | ar => exact r
theorem RepP.slot {K : PySem.W.Frag} {H0 B H : Hp} {m : Pm} {v : V} {d : D} (r : RepP K H0 B m v d) : Slot K H0 B H m.md (some v) d := by
  cases m with
  | im => exact r
  | ar => exact r
def pmT : Pm → Tg
  | .im => .im
  | .ar => .ar
theorem RepP.of {K : PySem.W.Frag} {H0 H B' H' : Hp} {m : Pm} {v : V} {d : D} (r : RepT K H0 H B' H' (pmT m) v d) : RepP K H0 B' m v d := by
  cases m with
  | im => exact r
  | ar => exact r
theorem RepP.flat {K : PySem.W.Frag} {H0 B : Hp} {m : Pm} {v : V} {d : D} (h : ∀ B, Rep false K B v d) : RepP K H0 B m v d := by
  cases m with
  | im => exact h _
  | ar => exact (h _).wide
structure WalkD (K : PySem.W.Frag) (m : Pm) (H0 B : Hp) (J : It) (ds : List D) : Prop where
  ex : ∃ Gd Y, Walk J ds.length Gd Y ∧ (∀ B1 H1, Same B B1 → Same H0 H1 → Same B1 H1 → Gd H1) ∧
    ∀ i H1 x H2 d B1, Y i H1 x H2 → ds[i]? = some d → Same B B1 → Same H0 H1 → Same B1 H1 → H2 = H1 ∧ RepP K H0 B1 m x d
structure WalkP (K : PySem.W.Frag) (m1 m2 : Pm) (H0 B : Hp) (J : It) (ps : List (D × D)) : Prop where
  ex : ∃ Gd Y, Walk J ps.length Gd Y ∧ (∀ B1 H1, Same B B1 → Same H0 H1 → Same B1 H1 → Gd H1) ∧
    ∀ i H1 x H2 (d1 d2 : D) B1, Y i H1 x H2 → ps[i]? = some (d1, d2) → Same B B1 → Same H0 H1 → Same B1 H1 → ∃ T x1 x2, x = .ref T ∧ H1 T = none ∧ H2 = upd H1 T (.tup [x1, x2]) ∧ RepP K H0 B1 m1 x1 d1 ∧ RepP K H0 B1 m2 x2 d2
def KI {α : Type} (mg : Str → Option Value) (W : WX) (sg : St) (B H : Hp) (Wk : Hp → It → α → Prop) (Rr : It → Hp → Prop) : R α → Prop
  | .ok ds => ∀ B' H' J, Ext B H B' H' → Wk B' J ds → Rr J H'
  | .ex c => ∀ B' H' a, Ext B H B' H' → mg c = some (.ref a) → W (.ref a) none sg H'
  | .bad => False
def vI (K : PySem.W.Frag) (mg : Str → Option Value) (G : List Md) (W : WX) (m : Pm) (f : List D → R (List D)) : TI := fun sg H Rr =>
  ∃ B0 H0 B e, Sta K G B0 H0 sg e B H ∧ KI mg W sg B H (WalkD K m H0) Rr (f e)
def vI2 (K : PySem.W.Frag) (mg : Str → Option Value) (G : List Md) (W : WX) (m1 m2 : Pm) (f : List D → R (List (D × D))) : TI := fun sg H Rr =>
  ∃ B0 H0 B e, Sta K G B0 H0 sg e B H ∧ KI mg W sg B H (WalkP K m1 m2 H0) Rr (f e)
theorem pi_weak {X : Cx} {tg e : Expr} {t t' : TI} (h : PI X tg e t) (w : ∀ sg H Q, t' sg H Q → t sg H Q) : PI X tg e t' := ⟨fun pins s σ H Q I q => h.run pins s σ H Q I (w σ H Q q)⟩
theorem Rep.rdT {c : Bool} {K : PySem.W.Frag} {B : Hp} {v : V} {ds : List D} (r : Rep c K B v (.tup ds)) : ∃ a vs, v = .ref a ∧ Rd B a (.tup vs) ∧ Reps c K B vs ds := by
  cases r with
  | tup h q => exact ⟨_, _, rfl, h.rd, q⟩
section
variable {K : PySem.W.Frag} {H0 B H H' : Hp} {m : Pm} {v : V} {ds : List D}
/-- a list that stands while a loop goes, and its items -/
theorem RepT.stay (r : RepT K H0 H B H' (pmT m) v (.lst ds)) : ∃ p vs, v = .ref p ∧ vs.length = ds.length ∧ (∀ B1 H1, Same B B1 → Same H0 H1 → Same B1 H1 → SqL K H1 p vs) ∧ ∀ (i : Nat) d B1, ds[i]? = some d → Same B B1 → ∃ x, vs[i]? = some x ∧ RepP K H0 B1 m x d := by
  cases m with
  | im =>
    obtain ⟨p, vs, rfl, hp, hr⟩ := Rep.rd r
    refine ⟨p, vs, rfl, hr.length, fun B1 H1 sb s0 sh => .inl (same_rd (sb.trans sh) hp), fun i d B1 hd sb => ?_⟩
    obtain ⟨z, hz, q⟩ := hr.get hd
    exact ⟨z, hz, Rep.mono sb q⟩
  | ar =>
    obtain ⟨p, vs, rfl, hp, hr⟩ := Rep.sq r
    refine ⟨p, vs, rfl, hr.length, fun B1 H1 sb s0 sh => s0.seq hp, fun i d B1 hd sb => ?_⟩
    obtain ⟨z, hz, q⟩ := hr.get hd
    exact ⟨z, hz, q⟩
theorem RepT.stayT (r : RepT K H0 H B H' (pmT m) v (.tup ds)) : ∃ p vs, v = .ref p ∧ vs.length = ds.length ∧ (∀ B1 H1, Same B B1 → Same H0 H1 → Same B1 H1 → SqT K H1 p vs) ∧ ∀ (i : Nat) d B1, ds[i]? = some d → Same B B1 → ∃ x, vs[i]? = some x ∧ RepP K H0 B1 m x d := by
  cases m with
  | im =>
    obtain ⟨p, vs, rfl, hp, hr⟩ := Rep.rdT r
    refine ⟨p, vs, rfl, hr.length, fun B1 H1 sb s0 sh => .inl (same_rd (sb.trans sh) hp), fun i d B1 hd sb => ?_⟩
    obtain ⟨z, hz, q⟩ := hr.get hd
    exact ⟨z, hz, Rep.mono sb q⟩
  | ar =>
    obtain ⟨p, vs, rfl, hp, hr⟩ := Rep.rdT r
    refine ⟨p, vs, rfl, hr.length, fun B1 H1 sb s0 sh => .inl (same_rd s0 hp), fun i d B1 hd sb => ?_⟩
    obtain ⟨z, hz, q⟩ := hr.get hd
    exact ⟨z, hz, q⟩
end
/-! ### sources -/
def lstOf : D → R (List D)
  | .lst ds => .ok ds
  | _ => .bad
def tupOf : D → R (List D)
  | .tup ds => .ok ds
  | _ => .bad
@[simp] theorem lstOf_lst (ds : List D) : lstOf (.lst ds) = .ok ds := rfl
@[simp] theorem tupOf_tup (ds : List D) : tupOf (.tup ds) = .ok ds := rfl
@[simp] def iLst (f : List D → R D) (e : List D) : R (List D) := (f e).bind lstOf
@[simp] def iTupl (f : List D → R D) (e : List D) : R (List D) := (f e).bind tupOf
section
variable {X : Cx} {G : List Md} {W : WX} {tg a : Expr} {f : List D → R D} {m : Pm}
theorem seqI {α : Type} {K : PySem.W.Frag} {mg : Str → Option Value} {sg : St} {H H0 B0 B : Hp} {e : List D} {ma : Tg} {kk : D → R α} {Wk : Hp → It → α → Prop} {Rr : It → Hp → Prop} {Rv : V → Hp → Prop} (S : Sta K G B0 H0 sg e B H)
    (h : KI mg W sg B H Wk Rr ((f e).bind kk)) (fin : ∀ B1 H1 x d, Ext B H B1 H1 → Sta K G B0 H0 sg e B1 H1 → RepT K H0 H B1 H1 ma x d → KI mg W sg B H Wk Rr (kk d) → Rv x H1) : vE K mg G W ma f sg H Rv :=
  seq1 (P := KI mg W sg B H Wk Rr) S h (fun c k => k) (fun k => k) fin
theorem vi_list (h : PE X a (vE X.K X.mg G W (pmT m) f)) : PI X tg a (vI X.K X.mg G W m (iLst f)) := by
  refine pi_weak (pi_list h) fun sg H Rr ⟨B0, H0, B, e, S, k⟩ => ?_
  refine seqI S k fun B1 H1 x d x1 S1 r1 k1 => ?_
  cases d with
  | lst ds =>
    obtain ⟨p, vs, rfl, hl, hst, hit⟩ := r1.stay
    refine ⟨p, rfl, ⟨vs, hst B1 H1 (Same.refl _) S1.ext.h x1.s⟩, k1 B1 H1 _ x1 ⟨fun H => SqL X.K H p vs, YAt vs, ?_, fun B2 H2 sb s0 sh => hst B2 H2 sb s0 sh, fun i H2 y H3 d B2 hy hd sb s0 sh => ?_⟩⟩
    · rw [← hl]
      exact walk_list (xs := vs)
    · obtain ⟨z, hz, q⟩ := hit i d B2 hd sb
      obtain ⟨e1, e2⟩ := hy
      rw [hz] at e2
      cases e2
      exact ⟨e1, q⟩
  | _ => exact k1.elim
theorem vi_tup (h : PE X a (vE X.K X.mg G W (pmT m) f)) : PI X tg a (vI X.K X.mg G W m (iTupl f)) := by
  refine pi_weak (pi_tup h) fun sg H Rr ⟨B0, H0, B, e, S, k⟩ => ?_
  refine seqI S k fun B1 H1 x d x1 S1 r1 k1 => ?_
  cases d with
  | tup ds =>
    obtain ⟨p, vs, rfl, hl, hst, hit⟩ := r1.stayT
    refine ⟨p, rfl, ⟨vs, hst B1 H1 (Same.refl _) S1.ext.h x1.s⟩, k1 B1 H1 _ x1 ⟨fun H => SqT X.K H p vs, YAt vs, ?_, fun B2 H2 sb s0 sh => hst B2 H2 sb s0 sh, fun i H2 y H3 d B2 hy hd sb s0 sh => ?_⟩⟩
    · rw [← hl]
      exact walk_tup (xs := vs)
    · obtain ⟨z, hz, q⟩ := hit i d B2 hd sb
      obtain ⟨e1, e2⟩ := hy
      rw [hz] at e2
      cases e2
      exact ⟨e1, q⟩
  | _ => exact k1.elim
/-- a text, sign by sign -/
def strOf : D → R (List D)
  | .str z => .ok (z.cps.toList.map fun c => .str ⟨#[c]⟩)
  | _ => .bad
@[simp] theorem strOf_str (z : Str) : strOf (.str z) = .ok (z.cps.toList.map fun c => .str ⟨#[c]⟩) := rfl
@[simp] def iStrg (f : List D → R D) (e : List D) : R (List D) := (f e).bind strOf
theorem vi_str {mt : Tg} (h : PE X a (vE X.K X.mg G W mt f)) : PI X tg a (vI X.K X.mg G W .im (iStrg f)) := by
  refine pi_weak (pi_str h) fun sg H Rr ⟨B0, H0, B, e, S, k⟩ => ?_
  refine seqI S k fun B1 H1 x d x1 S1 r1 k1 => ?_
  have r := r1.all x1.s S1.ext.h
  cases r with
  | str z =>
    refine ⟨z, rfl, k1 B1 H1 _ x1 ⟨fun _ => True, fun i H v H' => H' = H ∧ ∃ c, z.cps[i]? = some c ∧ v = .str ⟨#[c]⟩, ?_, fun B2 H2 sb s0 sh => trivial, fun i H2 y H3 d B2 hy hd sb s0 sh => ?_⟩⟩
    · rw [List.length_map, Array.length_toList]
      exact walk_str (z := z)
    · obtain ⟨e1, c, hc, rfl⟩ := hy
      rw [List.getElem?_map, Array.getElem?_toList, hc] at hd
      cases hd
      exact ⟨e1, .str _⟩
  | _ => exact k1.elim
end
/-- range(n), range(a, b) -/
def rngOf (a b : Int) : List D := (List.range (b - a).toNat).map fun (i : Nat) => D.int (a + (i : Int))
theorem rngOf_get {a b : Int} {i : Nat} {d : D} (h : (rngOf a b)[i]? = some d) : d = .int (a + i) := by
  unfold rngOf at h
  rw [List.getElem?_map] at h
  cases e : (List.range (b - a).toNat)[i]? with
  | none => rw [e] at h; cases h
  | some j =>
    rw [e] at h
    have hj := List.getElem?_eq_some_iff.mp e
    obtain ⟨h1, h2⟩ := hj
    rw [List.getElem_range] at h2
    cases h
    rw [h2]
theorem rngOf_len (a b : Int) : (rngOf a b).length = (b - a).toNat := by
  unfold rngOf
  rw [List.length_map, List.length_range]
def inR (i : Int) : Prop := -(2 ^ 62) ≤ i ∧ i < 2 ^ 62
instance (i : Int) : Decidable (inR i) := by unfold inR; infer_instance
def rng1 : List D → R (List D)
  | [.int j] => if inR j then .ok (rngOf 0 j) else .bad
  | _ => .bad
def rng2 : List D → R (List D)
  | [.int i, .int j] => if inR i ∧ inR j then .ok (rngOf i j) else .bad
  | _ => .bad
@[simp] theorem rng1_int (j : Int) : rng1 [.int j] = if inR j then .ok (rngOf 0 j) else .bad := rfl
@[simp] theorem rng2_int (i j : Int) : rng2 [.int i, .int j] = if inR i ∧ inR j then .ok (rngOf i j) else .bad := rfl
@[simp] def iRng (g : List D → R (List D)) (fs : List D → R (List D)) (e : List D) : R (List D) := (fs e).bind g
section
variable {X : Cx} {G : List Md} {W : WX} {tg a b : Expr} {fs : List D → R (List D)} {ts : List Tg} {p pos : Pos}
theorem walk_rng {K : PySem.W.Frag} {H0 B : Hp} (i j : Int) : WalkD K .im H0 B (Itr i (j - i).toNat) (rngOf i j) := by
  refine ⟨fun _ => True, YFn fun k => .int (i + k), ?_, fun _ _ _ _ _ => trivial, fun k H1 x H2 d B1 hy hd _ _ _ => ?_⟩
  · rw [rngOf_len]
    exact walk_range
  · obtain ⟨e1, e2⟩ := hy
    rw [rngOf_get hd, e2]
    exact ⟨e1, .int _⟩
theorem vi_range1 (hm : X.mg "range" = none) (ha : PA X [a] (vA X.K X.mg G W ts fs)) (hg : Gl X "range" := by rfl) (hs : starEach [a] X.env = [(false, eval a X.env)] := by rfl) : PI X tg (.Call (.Name "range" p) [a] [] pos) (vI X.K X.mg G W .im (iRng rng1 fs)) := by
  refine pi_weak (pi_range1 hg hm ha hs) fun sg H Rr ⟨B0, H0, B, e, S, k⟩ => ⟨B0, H0, B, e, S, ?_⟩
  unfold iRng at k
  cases ef : fs e with
  | bad => rw [ef] at k; exact k.elim
  | ex c => rw [ef] at k; exact k
  | ok ds =>
    rw [ef, R.bind_ok] at k
    intro B1 H1 vs x1 r1
    have rs := reps_all x1.s (S.ext.h.trans x1.h) r1
    unfold rng1 at k
    split at k
    · obtain ⟨v, rfl, h1⟩ := reps1 rs
      cases h1
      split at k
      · rename_i j hj
        refine ⟨j, rfl, hj.1, hj.2, ?_⟩
        have w := walk_rng (K := X.K) (H0 := H0) (B := B1) 0 j
        rw [show (j - 0).toNat = j.toNat by omega] at w
        exact k B1 H1 _ x1 w
      · exact k.elim
    · exact k.elim
theorem vi_range2 (hm : X.mg "range" = none) (ha : PA X [a, b] (vA X.K X.mg G W ts fs)) (hg : Gl X "range" := by rfl) (hs : starEach [a, b] X.env = [(false, eval a X.env), (false, eval b X.env)] := by rfl) (hs2 : starEach [b] X.env = [(false, eval b X.env)] := by rfl) :
    PI X tg (.Call (.Name "range" p) [a, b] [] pos) (vI X.K X.mg G W .im (iRng rng2 fs)) := by
  refine pi_weak (pi_range2 hg hm ha hs hs2) fun sg H Rr ⟨B0, H0, B, e, S, k⟩ => ⟨B0, H0, B, e, S, ?_⟩
  unfold iRng at k
  cases ef : fs e with
  | bad => rw [ef] at k; exact k.elim
  | ex c => rw [ef] at k; exact k
  | ok ds =>
    rw [ef, R.bind_ok] at k
    intro B1 H1 vs x1 r1
    have rs := reps_all x1.s (S.ext.h.trans x1.h) r1
    unfold rng2 at k
    split at k
    · obtain ⟨v, v', rfl, h1, h2⟩ := reps2 rs
      cases h1
      cases h2
      split at k
      · rename_i i j hj
        exact ⟨i, j, rfl, ⟨hj.1.1, hj.1.2, hj.2.1, hj.2.2⟩, k B1 H1 _ x1 (walk_rng i j)⟩
      · exact k.elim
    · exact k.elim
end
/-! ### pairs: enumerate, zip -/
def enumL (ds : List D) : List (D × D) := ds.zipIdx.map fun p => (.int p.2, p.1)
theorem enumL_len (ds : List D) : (enumL ds).length = ds.length := by
  unfold enumL
  rw [List.length_map, List.length_zipIdx]
theorem enumL_get {ds : List D} {i : Nat} {d1 d2 : D} (h : (enumL ds)[i]? = some (d1, d2)) : d1 = .int i ∧ ds[i]? = some d2 := by
  unfold enumL at h
  rw [List.getElem?_map, List.getElem?_zipIdx] at h
  cases e : ds[i]? with
  | none => rw [e] at h; cases h
  | some d =>
    rw [e] at h
    cases h
    refine ⟨?_, rfl⟩
    show D.int (((0 + i : Nat)) : Int) = D.int (i : Int)
    rw [Nat.zero_add]
@[simp] def iEnumL (f : List D → R D) (e : List D) : R (List (D × D)) := (f e).bind fun d => (lstOf d).bind fun ds => .ok (enumL ds)
@[simp] def iZipL (f g : List D → R D) (e : List D) : R (List (D × D)) := (f e).bind fun d => (g e).bind fun d' => (lstOf d).bind fun ds => (lstOf d').bind fun es => .ok (ds.zip es)
@[simp] def iZipT (f g : List D → R D) (e : List D) : R (List (D × D)) := (f e).bind fun d => (g e).bind fun d' => (tupOf d).bind fun ds => (tupOf d').bind fun es => .ok (ds.zip es)
section
variable {X : Cx} {G : List Md} {W : WX} {a b : Expr} {f g : List D → R D} {m m1 m2 : Pm} {p pos tpos : Pos} {elts : List Expr} {kk : Nat}
theorem vi_enum (hm : X.mg "enumerate" = none) (ha : PE X a (vE X.K X.mg G W (pmT m) f)) (hg : Gl X "enumerate" := by rfl) (hs : starEach [a] X.env = [(false, eval a X.env)] := by rfl) :
    PI X (.Tuple elts kk tpos) (.Call (.Name "enumerate" p) [a] [] pos) (vI2 X.K X.mg G W .im m (iEnumL f)) := by
  refine pi_weak (pi_enum hg hm (pa_cons ha pa_nil hs) hs) fun sg H Rr ⟨B0, H0, B, e, S, k⟩ => ?_
  refine seqI S k fun B1 H1 x d x1 S1 r1 k1 => ?_
  cases d with
  | lst ds =>
    obtain ⟨q, vs, rfl, hl, hst, hit⟩ := r1.stay
    refine ⟨q, vs, rfl, hst B1 H1 (Same.refl _) S1.ext.h x1.s, k1 B1 H1 _ x1 ⟨fun H => SqL X.K H q vs, YPair (fun i => some (.int (i : Nat))) (fun i => vs[i]?), ?_, fun B2 H2 sb s0 sh => hst B2 H2 sb s0 sh, fun i H2 y H3 d1 d2 B2 hy hd sb s0 sh => ?_⟩⟩
    · rw [enumL_len, ← hl]
      exact walk_enum (xs := vs)
    · obtain ⟨e1, e2⟩ := enumL_get hd
      obtain ⟨T, y1, y2, h1, h2, h3, h4, h5⟩ := hy
      obtain ⟨z, hz, rz⟩ := hit i d2 B2 e2 sb
      have h5 : vs[i]? = some y2 := h5
      rw [hz] at h5
      cases h5
      cases h4
      rw [e1]
      exact ⟨T, _, _, h1, h2, h3, .int _, rz⟩
  | _ => exact k1.elim
theorem zip_get {α β : Type} : ∀ {xs : List α} {ys : List β} {i : Nat} {x : α} {y : β}, (xs.zip ys)[i]? = some (x, y) → xs[i]? = some x ∧ ys[i]? = some y := fun {xs ys i x y} h => by
  rw [List.getElem?_zip_eq_some] at h
  exact h
theorem vi_zipL (hm : X.mg "zip" = none) (ha : PE X a (vE X.K X.mg G W (pmT m1) f)) (hb : PE X b (vE X.K X.mg G W (pmT m2) g)) (hg : Gl X "zip" := by rfl)
    (hs : starEach [a, b] X.env = (false, eval a X.env) :: starEach [b] X.env := by rfl) (hs2 : starEach [b] X.env = [(false, eval b X.env)] := by rfl) :
    PI X (.Tuple elts kk tpos) (.Call (.Name "zip" p) [a, b] [] pos) (vI2 X.K X.mg G W m1 m2 (iZipL f g)) := by
  refine pi_weak (pi_zip hg hm (pa_cons ha (pa_cons hb pa_nil hs2) hs) hs (by rw [hs2]; rfl)) fun sg H Rr ⟨B0, H0, B, e, S, k⟩ => ?_
  refine seqI S k fun B1 H1 x d x1 S1 r1 k1 => ?_
  refine seq1 (P := KI X.mg W sg B H (WalkP X.K m1 m2 H0) Rr) S1 k1 (fun c k B' H' a y hm => k B' H' a (x1.trans y) hm) (fun k => k) fun B2 H2 x' d' x2 S2 r2 k2 => ?_
  cases d with
  | lst ds =>
    cases d' with
    | lst es =>
      obtain ⟨q, vs, rfl, hl, hst, hit⟩ := (r1.later x2).stay
      obtain ⟨q', vs', rfl, hl', hst', hit'⟩ := (r2.earlier x1.h).stay
      refine ⟨q, q', vs, vs', rfl, hst B2 H2 (Same.refl _) S2.ext.h x2.s, hst' B2 H2 (Same.refl _) S2.ext.h x2.s, k2 B2 H2 _ (x1.trans x2) ⟨fun H => SqL X.K H q vs ∧ SqL X.K H q' vs', YPair (fun i => vs[i]?) (fun i => vs'[i]?), ?_, fun B3 H3 sb s0 sh => ⟨hst B3 H3 sb s0 sh, hst' B3 H3 sb s0 sh⟩, fun i H3 y H4 d1 d2 B3 hy hd sb s0 sh => ?_⟩⟩
      · exact walk_zip (xs := vs) (ys := vs') (by rw [List.length_zip, hl, hl'])
      · obtain ⟨e1, e2⟩ := zip_get hd
        obtain ⟨T, y1, y2, h1, h2, h3, h4, h5⟩ := hy
        obtain ⟨z, hz, rz⟩ := hit i d1 B3 e1 sb
        obtain ⟨z', hz', rz'⟩ := hit' i d2 B3 e2 sb
        have h4 : vs[i]? = some y1 := h4
        have h5 : vs'[i]? = some y2 := h5
        rw [hz] at h4
        rw [hz'] at h5
        cases h4
        cases h5
        exact ⟨T, _, _, h1, h2, h3, rz, rz'⟩
    | _ => exact k2.elim
  | _ => exact k2.elim
end

/-! ## targets -/
/-- but for the places of is nothing is changed -/
def Ag (is : List Nat) (sg sg1 : St) : Prop := sg1.length = sg.length ∧ ∀ j : Nat, j ∉ is → sg1[j]? = sg[j]?
theorem Ag.refl (is : List Nat) (sg : St) : Ag is sg sg := ⟨rfl, fun _ _ => rfl⟩
theorem Ag.set {is : List Nat} {sg sg1 : St} (a : Ag is sg sg1) {i : Nat} (hi : i ∈ is) (x : Option V) : Ag is sg (sg1.set i x) := by
  refine ⟨by rw [List.length_set]; exact a.1, fun j hj => ?_⟩
  have hne : i ≠ j := fun z => by
    subst z
    exact hj hi
  rw [List.getElem?_set_ne hne]
  exact a.2 j hj
theorem Ag.fold {is : List Nat} {sg : St} : ∀ {js : List Nat} {vs : List V} {sg1 : St}, Ag is sg sg1 → (∀ j ∈ js, j ∈ is) → Ag is sg (List.foldl (fun s p => s.set p.1 (some p.2)) sg1 (js.zip vs))
  | [], _, _, a, _ => a
  | _ :: _, [], _, a, _ => a
  | j :: js, v :: vs, sg1, a, h => Ag.fold (js := js) (vs := vs) (a.set (h j List.mem_cons_self) _) fun k hk => h k (List.mem_cons_of_mem _ hk)
def KG (K : PySem.W.Frag) (G1 : List Md) (is : List Nat) (sg : St) (B0 H0 B H : Hp) (Qs : St → Hp → Prop) : Option (List D) → Prop
  | some e1 => ∀ sg1, Sta K G1 B0 H0 sg1 e1 B H → Ag is sg sg1 → Qs sg1 H
  | _ => False
def vG (K : PySem.W.Frag) (m : Pm) (is : List Nat) (G G1 : List Md) (t : D → List D → Option (List D)) : TG := fun v sg H Qs =>
  ∃ B0 H0 B e d, Sta K G B0 H0 sg e B H ∧ RepP K H0 B m v d ∧ KG K G1 is sg B0 H0 B H Qs (t d e)
theorem pg_weak {X : Cx} {tg : Expr} {t t' : TG} (h : PG X tg t) (w : ∀ v sg H Q, t' v sg H Q → t v sg H Q) : PG X tg t' := ⟨fun pins s σ H v u Q I r q => h.run pins s σ H v u Q I r (w v σ H Q q)⟩
@[simp] def tgName (i : Nat) (d : D) (e : List D) : Option (List D) := some (e.set i d)
/-- several names -/
def setAll : List Nat → List D → List D → Option (List D)
  | [], [], e => some e
  | i :: is, d :: ds, e => setAll is ds (e.set i d)
  | _, _, _ => none
@[simp] theorem setAll_nil (e : List D) : setAll [] [] e = some e := rfl
@[simp] theorem setAll_cons (i : Nat) (is : List Nat) (d : D) (ds e : List D) : setAll (i :: is) (d :: ds) e = setAll is ds (e.set i d) := rfl
def tgTup (is : List Nat) : D → List D → Option (List D)
  | .tup ds, e => setAll is ds e
  | _, _ => none
def tgLst (is : List Nat) : D → List D → Option (List D)
  | .lst ds, e => setAll is ds e
  | _, _ => none
@[simp] theorem tgTup_tup (is : List Nat) (ds e : List D) : tgTup is (.tup ds) e = setAll is ds e := rfl
@[simp] theorem tgLst_lst (is : List Nat) (ds e : List D) : tgLst is (.lst ds) e = setAll is ds e := rfl
def setG : List Nat → Md → List Md → List Md
  | [], _, G => G
  | i :: is, m, G => setG is m (G.set i m)
section
variable {X : Cx} {G G1 : List Md} {pos : Pos} {i : Nat} {x : Str} {m : Pm}
theorem md_ne (m : Pm) : m.md = .ow → False := by
  cases m <;> exact fun z => by cases z
theorem vg_name (hN : X.N.Nodup) (hi : X.N[i]? = some x := by rfl) (hx : Loc X.env.scope x := by first | exact Or.inl rfl | exact Or.inr rfl) (hf : X.fn x = true ∨ X.env.scope.names.lookup x = some .local := by first | exact .inl rfl | exact .inr rfl) :
    PG X (.Name x pos) (vG X.K m [i] G (G.set i m.md) (tgName i)) := by
  refine pg_weak (pg_name hN hi hx hf) fun v sg H Q ⟨B0, H0, B, e, d, S, r, k⟩ => ?_
  exact k _ (S.set i r.slot (fun z => (md_ne m z).elim)) ((Ag.refl _ _).set List.mem_cons_self _)
/-- several names, by places -/
structure PNs (X : Cx) (es : List Expr) (is : List Nat) (t : TGs) : Prop where
  pg : PGs X es t
  ok : ∀ {vs : List V} {sg : St} {H : Hp} {Q : St → Hp → Prop}, vs.length = is.length → (Q (List.foldl (fun s p => s.set p.1 (some p.2)) sg (is.zip vs)) H) → t vs sg H Q
theorem pn_nil : PNs X [] [] gNil := ⟨pgs_nil, fun {vs sg H Q} hl q => by
  cases vs with
  | nil => exact ⟨rfl, q⟩
  | cons _ _ => cases hl⟩
theorem pn_cons {es : List Expr} {is : List Nat} {t : TGs} (hN : X.N.Nodup) (h : PNs X es is t) (hi : X.N[i]? = some x := by rfl) (hx : Loc X.env.scope x := by first | exact Or.inl rfl | exact Or.inr rfl) (hf : X.fn x = true ∨ X.env.scope.names.lookup x = some .local := by first | exact .inl rfl | exact .inr rfl)
    (hs : (assignEach (.Name x pos :: es) X.env).map (·.2) = assign (.Name x pos) X.env :: (assignEach es X.env).map (·.2) := by rfl) : PNs X (.Name x pos :: es) (i :: is) (gCons (gName i) t) :=
  ⟨pgs_cons (pg_name hN hi hx hf) h.pg hs, fun {vs sg H Q} hl q => by
    cases vs with
    | nil => cases hl
    | cons v vs => exact ⟨v, vs, rfl, h.ok (Nat.succ.inj hl) q⟩⟩
theorem sta_all {K : PySem.W.Frag} {B0 H0 B H : Hp} : ∀ {is : List Nat} {vs : List V} {ds e e1 : List D} {G : List Md} {sg : St}, Sta K G B0 H0 sg e B H → setAll is ds e = some e1 → vs.length = ds.length → (∀ (j : Nat) d, ds[j]? = some d → ∃ v, vs[j]? = some v ∧ RepP K H0 B m v d) →
    is.length = vs.length ∧ Sta K (setG is m.md G) B0 H0 (List.foldl (fun s p => s.set p.1 (some p.2)) sg (is.zip vs)) e1 B H
  | [], vs, ds, e, e1, G, sg, S, h, hl, hr => by
    cases ds with
    | nil =>
      cases vs with
      | nil =>
        cases h
        exact ⟨rfl, S⟩
      | cons _ _ => cases hl
    | cons _ _ => cases h
  | i :: is, vs, ds, e, e1, G, sg, S, h, hl, hr => by
    cases ds with
    | nil => cases h
    | cons d ds =>
      cases vs with
      | nil => cases hl
      | cons v vs =>
        obtain ⟨v', hv, rv⟩ := hr 0 d rfl
        cases hv
        have S1 := S.set i (m := m.md) rv.slot (fun z => (md_ne m z).elim)
        obtain ⟨h1, h2⟩ := sta_all S1 h (Nat.succ.inj hl) fun j d hd => hr (j + 1) d hd
        exact ⟨congrArg (· + 1) h1, h2⟩
theorem vg_tup {es : List Expr} {is : List Nat} {t : TGs} {k n : Nat} (hc : X.calm = true) (h : PNs X es is t) (hn : (assignEach es X.env).length = n := by rfl) (hi : is.length = n := by rfl) (hst : (assignEach es X.env).findIdx? (·.1) = none := by rfl) :
    PG X (.Tuple es k pos) (vG X.K m is G (setG is m.md G) (tgTup is)) := by
  refine pg_weak (pg_tup hc h.pg hn hst) fun v sg H Q ⟨B0, H0, B, e, d, S, r, k⟩ => ?_
  cases d with
  | tup ds =>
    have k : KG X.K (setG is m.md G) is sg B0 H0 B H Q (setAll is ds e) := k
    cases es' : setAll is ds e with
    | none => rw [es'] at k; exact k.elim
    | some e1 =>
      rw [es'] at k
      have fin : ∀ {c : Bool} {Bx : Hp} {p : Addr} {vs : List V}, v = .ref p → Rd H p (.tup vs) → vs.length = ds.length → (∀ (j : Nat) d, ds[j]? = some d → ∃ v, vs[j]? = some v ∧ RepP X.K H0 B m v d) → gTup X.K n t v sg H Q := fun {c Bx p vs} ev hp hl hr => by
        obtain ⟨h1, h2⟩ := sta_all (m := m) S es' hl hr
        exact ⟨p, vs, ev, .inl hp, by rw [← h1, hi], h.ok h1.symm (k _ h2 ((Ag.refl _ _).fold fun _ z => z))⟩
      cases m with
      | im =>
        obtain ⟨p, vs, ev, hp, hr⟩ := Rep.rdT r
        exact fin (c := true) (Bx := B) ev (same_rd S.ext.s hp) hr.length fun j d hd => hr.get hd
      | ar =>
        obtain ⟨p, vs, ev, hp, hr⟩ := Rep.rdT r
        exact fin (c := true) (Bx := B) ev (same_rd S.ext.h hp) hr.length fun j d hd => hr.get hd
  | _ => exact k.elim
theorem vg_lst {es : List Expr} {is : List Nat} {t : TGs} {k n : Nat} (hc : X.calm = true) (h : PNs X es is t) (hn : (assignEach es X.env).length = n := by rfl) (hi : is.length = n := by rfl) (hst : (assignEach es X.env).findIdx? (·.1) = none := by rfl) :
    PG X (.Tuple es k pos) (vG X.K m is G (setG is m.md G) (tgLst is)) := by
  refine pg_weak (pg_lst hc h.pg hn hst) fun v sg H Q ⟨B0, H0, B, e, d, S, r, k⟩ => ?_
  cases d with
  | lst ds =>
    have k : KG X.K (setG is m.md G) is sg B0 H0 B H Q (setAll is ds e) := k
    cases es' : setAll is ds e with
    | none => rw [es'] at k; exact k.elim
    | some e1 =>
      rw [es'] at k
      have fin : ∀ {p : Addr} {vs : List V}, v = .ref p → SqL X.K H p vs → vs.length = ds.length → (∀ (j : Nat) d, ds[j]? = some d → ∃ v, vs[j]? = some v ∧ RepP X.K H0 B m v d) → gLst X.K n t v sg H Q := fun {p vs} ev hp hl hr => by
        obtain ⟨h1, h2⟩ := sta_all (m := m) S es' hl hr
        exact ⟨p, vs, ev, hp, by rw [← h1, hi], h.ok h1.symm (k _ h2 ((Ag.refl _ _).fold fun _ z => z))⟩
      cases m with
      | im =>
        obtain ⟨p, vs, ev, hp, hr⟩ := Rep.rd r
        exact fin ev (.inl (same_rd S.ext.s hp)) hr.length fun j d hd => hr.get hd
      | ar =>
        obtain ⟨p, vs, ev, hp, hr⟩ := Rep.sq r
        exact fin ev (S.ext.h.seq hp) hr.length fun j d hd => hr.get hd
  | _ => exact k.elim
end
/-! ## for -/
def forL (t : D → List D → Option (List D)) (g : List D → R Fl) : List D → List D → R Fl
  | [], e => .ok (.nx e)
  | d :: ds, e => (ofO (t d e)).bind fun e1 => (g e1).bind fun fl => fl.thn (forL t g ds)
@[simp] def sFor (it : List D → R (List D)) (t : D → List D → Option (List D)) (g : List D → R Fl) (e : List D) : R Fl := (it e).bind fun ds => forL t g ds e
def forP (i j : Nat) (g : List D → R Fl) : List (D × D) → List D → R Fl
  | [], e => .ok (.nx e)
  | p :: ps, e => (g ((e.set i p.1).set j p.2)).bind fun fl => fl.thn (forP i j g ps)
@[simp] def sForP (it : List D → R (List (D × D))) (i j : Nat) (g : List D → R Fl) (e : List D) : R Fl := (it e).bind fun ps => forP i j g ps e
section
variable {X : Cx} {G G1 G2 : List Md} {W : WX} {rm : Rm} {pos : Pos} {tg iter : Expr} {body : List Stmt} {it : List D → R (List D)} {t : D → List D → Option (List D)} {g : List D → R Fl} {m : Pm}
theorem vs_for (hp : PassesOwn (model X.prog X.w) X.A X.env X.xe) (hc : X.calm = true) (hi : PI X tg iter (vI X.K X.mg G W m it)) {is : List Nat} (hg : PG X tg (vG X.K m is G G1 t)) (hb : PSs X body (vS X.K X.mg G1 G2 W rm g)) (hl : leG G2 G = true)
    (hs : ∀ x, foldedSetIterable iter X.env x = pure x := by intro _; rfl) : PS X (.For tg iter body [] pos) (vS X.K X.mg G G W rm (sFor it t g)) := by
  refine ps_weak (ps_for hp hc hi hg hb hs) fun Dn sg H ⟨B0, H0, B, e, S, k⟩ => ⟨B0, H0, B, e, S, ?_⟩
  unfold sFor at k
  cases ei : it e with
  | bad => rw [ei] at k; exact k.elim
  | ex c => rw [ei] at k; exact ks_ex S k
  | ok ds =>
    rw [ei, R.bind_ok] at k
    intro B1 H1 J x1 w
    obtain ⟨Gd, Y, wk, hgd, hy⟩ := w.ex
    refine for_it wk (fun i sg' H' => ∃ B' e', Sta X.K G B0 H0 sg' e' B' H' ∧ Same B1 B' ∧ KS X.K X.mg G W rm B0 H0 B Dn (forL t g (ds.drop i) e')) ⟨B1, e, S.later x1, Same.refl _, by rw [List.drop_zero]; exact k⟩
      (fun i sg' H' _ ⟨B', e', S', sb, _⟩ => hgd B' H' sb S'.ext.h S'.ext.s) (fun i x sg' H' H'' hi ⟨B', e', S', sb, kf⟩ y => ?_) (fun sg' H' ⟨B', e', S', sb, kf⟩ => ?_)
    · have hd : ds[i]? = some ds[i] := List.getElem?_eq_getElem hi
      obtain ⟨rfl, rp⟩ := hy i H' x H'' ds[i] B' y hd sb S'.ext.h S'.ext.s
      rw [List.drop_eq_getElem_cons hi] at kf
      refine ⟨B0, H0, B', e', ds[i], S', rp, ?_⟩
      unfold forL at kf
      cases et : t ds[i] e' with
      | none => rw [et] at kf; exact kf.elim
      | some e1 =>
        rw [et, ofO_some, R.bind_ok] at kf
        intro sg1 S2 _
        refine ⟨B0, H0, B', e1, S2, ?_⟩
        cases eg : g e1 with
        | bad => rw [eg] at kf; exact kf
        | ex c => rw [eg] at kf; exact kf
        | ok fl =>
          rw [eg] at kf
          cases fl with
          | nx e2 => exact fun sg3 B3 H3 S3 s3 => ⟨B3, e2, S3.le hl, sb.trans s3, kf⟩
          | rt d => exact kf
    · rw [List.drop_length] at kf
      exact kf sg' B' H' S' (x1.b.trans sb)
theorem vs_forP {itP : List D → R (List (D × D))} {m1 m2 : Pm} {i j : Nat} {x y : Str} {px py pt : Pos} {kt : Nat} (hp : PassesOwn (model X.prog X.w) X.A X.env X.xe) (hc : X.calm = true) (hN : X.N.Nodup)
    (hi : PI X (.Tuple [.Name x px, .Name y py] kt pt) iter (vI2 X.K X.mg G W m1 m2 itP)) (hb : PSs X body (vS X.K X.mg ((G.set i m1.md).set j m2.md) G2 W rm g)) (hl : leG G2 G = true) (hix : X.N[i]? = some x := by rfl) (hjx : X.N[j]? = some y := by rfl)
    (hlx : Loc X.env.scope x := by first | exact Or.inl rfl | exact Or.inr rfl) (hly : Loc X.env.scope y := by first | exact Or.inl rfl | exact Or.inr rfl) (hfx : X.fn x = true ∨ X.env.scope.names.lookup x = some .local := by first | exact .inl rfl | exact .inr rfl) (hfy : X.fn y = true ∨ X.env.scope.names.lookup y = some .local := by first | exact .inl rfl | exact .inr rfl)
    (hs : ∀ x, foldedSetIterable iter X.env x = pure x := by intro _; rfl) (h1 : (assignEach [.Name x px, .Name y py] X.env).map (·.2) = assign (.Name x px) X.env :: (assignEach [.Name y py] X.env).map (·.2) := by rfl) (h2 : (assignEach [.Name y py] X.env).map (·.2) = assign (.Name y py) X.env :: (assignEach [] X.env).map (·.2) := by rfl)
    (hn : (assignEach [.Name x px, .Name y py] X.env).length = 2 := by rfl) (hst : (assignEach [.Name x px, .Name y py] X.env).findIdx? (·.1) = none := by rfl) :
    PS X (.For (.Tuple [.Name x px, .Name y py] kt pt) iter body [] pos) (vS X.K X.mg G G W rm (sForP itP i j g)) := by
  refine ps_weak (ps_for hp hc hi (pg_tup hc (pgs_cons (pg_name hN hix hlx hfx) (pgs_cons (pg_name hN hjx hly hfy) pgs_nil h2) h1) hn hst) hb hs) fun Dn sg H ⟨B0, H0, B, e, S, k⟩ => ⟨B0, H0, B, e, S, ?_⟩
  unfold sForP at k
  cases ei : itP e with
  | bad => rw [ei] at k; exact k.elim
  | ex c => rw [ei] at k; exact ks_ex S k
  | ok ds =>
    rw [ei, R.bind_ok] at k
    intro B1 H1 J x1 w
    obtain ⟨Gd, Y, wk, hgd, hy⟩ := w.ex
    refine for_it wk (fun i' sg' H' => ∃ B' e', Sta X.K G B0 H0 sg' e' B' H' ∧ Same B1 B' ∧ KS X.K X.mg G W rm B0 H0 B Dn (forP i j g (ds.drop i') e')) ⟨B1, e, S.later x1, Same.refl _, by rw [List.drop_zero]; exact k⟩
      (fun i sg' H' _ ⟨B', e', S', sb, _⟩ => hgd B' H' sb S'.ext.h S'.ext.s) (fun i' x sg' H' H'' hi ⟨B', e', S', sb, kf⟩ y => ?_) (fun sg' H' ⟨B', e', S', sb, kf⟩ => ?_)
    · have hd : ds[i']? = some (ds[i'].1, ds[i'].2) := List.getElem?_eq_getElem hi
      obtain ⟨T, v1, v2, rfl, hT, rfl, q1, q2⟩ := hy i' H' x H'' _ _ B' y hd sb S'.ext.h S'.ext.s
      rw [List.drop_eq_getElem_cons hi] at kf
      unfold forP at kf
      have x2 : Ext B' H' B' (upd H' T (.tup [v1, v2])) := .newH S'.ext.s hT
      have S1 := S'.later x2
      have S2 := (S1.set i (m := m1.md) q1.slot (fun z => (md_ne m1 z).elim)).set j (m := m2.md) q2.slot (fun z => (md_ne m2 z).elim)
      refine ⟨T, [v1, v2], rfl, .inl (.inl upd_same), rfl, v1, [v2], rfl, v2, [], rfl, rfl, B0, H0, B', _, S2, ?_⟩
      cases eg : g ((e'.set i ds[i'].1).set j ds[i'].2) with
      | bad => rw [eg] at kf; exact kf
      | ex c => rw [eg] at kf; exact kf
      | ok fl =>
        rw [eg] at kf
        cases fl with
        | nx e2 => exact fun sg3 B3 H3 S3 s3 => ⟨B3, e2, S3.le hl, sb.trans s3, kf⟩
        | rt d => exact kf
    · rw [List.drop_length] at kf
      exact kf sg' B' H' S' (x1.b.trans sb)
end
end L2.VL
set_option Elab.async false
set_option linter.all false
set_option maxRecDepth 100000
set_option maxHeartbeats 4000000
namespace L2.VL
open PySem PySem.Spec PyProof.Rows

/-! ## one's own list is changed -/
section
variable {K : PySem.W.Frag} {H0 B0 B H : Hp} {G : List Md} {sg : St} {e : List D} {p : Addr} {o : HO} {d1 : D}
theorem Slot.upd {m : Md} {x : Option V} {d : D} (s : Slot K H0 B H m x d) (h : m = .ow → x ≠ some (.ref p)) : Slot K H0 B (upd H p o) m x d := by
  cases m with
  | un => trivial
  | im =>
    cases x with
    | none => exact s.elim
    | some v => exact s
  | ar =>
    cases x with
    | none => exact s.elim
    | some v => exact s
  | ex _ _ =>
    cases x with
    | none => exact s.elim
    | some v => exact s
  | ow =>
    obtain ⟨q, rfl, q1, q2, q3⟩ := Slot.own s
    have hne : q ≠ p := fun z => h rfl (by rw [z])
    refine ⟨q1, q2, ?_⟩
    cases d with
    | lst ds =>
      obtain ⟨vs, h1, h2⟩ := q3
      exact ⟨vs, by rw [upd_ne hne]; exact h1, h2⟩
    | dic ds =>
      obtain ⟨vs, h1, h2⟩ := q3
      exact ⟨vs, by rw [upd_ne hne]; exact h1, h2⟩
    | _ => exact q3.elim
theorem Slots.upd (hp0 : H0 p = none) (hpb : B p = none) (ho : Own K B (L2.upd H p o) p d1) : ∀ {ms : List Md} {xs : List (Option V)} {ds : List D} (i : Nat), Slots K H0 B H ms xs ds → ms[i]? = some .ow → xs[i]? = some (some (.ref p)) → (∀ j : Nat, ms[j]? = some Md.ow → xs[j]? = some (some (V.ref p)) → j = i) →
    Slots K H0 B (L2.upd H p o) ms xs (ds.set i d1)
  | [], [], [], i, _, h, _, _ => by simp at h
  | m :: ms, x :: xs, d :: ds, 0, ⟨s, r⟩, h1, h2, hu => by
    have em : m = .ow := Option.some.inj h1
    have ex : x = some (.ref p) := Option.some.inj h2
    subst em ex
    refine ⟨⟨hp0, hpb, ho⟩, ?_⟩
    have go : ∀ {ms : List Md} {xs : List (Option V)} {ds : List D}, Slots K H0 B H ms xs ds → (∀ j : Nat, ms[j]? = some Md.ow → xs[j]? = some (some (V.ref p)) → False) → Slots K H0 B (L2.upd H p o) ms xs ds := by
      intro ms
      induction ms with
      | nil => intro xs ds s _; cases xs <;> cases ds <;> first | trivial | exact s.elim
      | cons m ms ih =>
        intro xs ds s hu
        cases xs with
        | nil => exact s.elim
        | cons x xs =>
          cases ds with
          | nil => exact s.elim
          | cons d ds =>
            obtain ⟨s, r⟩ := s
            exact ⟨Slot.upd s fun em ex => hu 0 (by rw [em]; rfl) (by rw [ex]; rfl), ih r fun j a b => hu (j + 1) (by simpa using a) (by simpa using b)⟩
    exact go r fun j a b => by
      have z := hu (j + 1) (by simpa using a) (by simpa using b)
      cases z
  | m :: ms, x :: xs, d :: ds, i + 1, ⟨s, r⟩, h1, h2, hu => by
    refine ⟨Slot.upd s fun em ex => ?_, Slots.upd hp0 hpb ho i r (by simpa using h1) (by simpa using h2) fun j a b => ?_⟩
    · have z := hu 0 (by rw [em]; rfl) (by rw [ex]; rfl)
      cases z
    · have z := hu (j + 1) (by simpa using a) (by simpa using b)
      omega
theorem Sta.mut (S : Sta K G B0 H0 sg e B H) {i : Nat} (hG : G[i]? = some .ow) (hs : sg[i]? = some (some (.ref p))) (ho : Own K B (upd H p o) p d1) : Sta K G B0 H0 sg (e.set i d1) B (upd H p o) := by
  obtain ⟨x, d, h1, h2, h3⟩ := S.sl.get hG
  rw [hs] at h1
  cases h1
  obtain ⟨hp0, hpb, _⟩ := h3
  refine ⟨⟨S.ext.b, same_updH S.ext.h hp0, same_updH S.ext.s hpb, S.ext.n⟩, Slots.upd hp0 hpb ho i S.sl hG hs fun j a b => S.dis j i p a hG b hs, S.dis⟩
end
/-- what a method does to a list of one's own -/
def MutL (K : PySem.W.Frag) (r : V → List V → Hp → VK → Prop) (g : List D → List D → Option (List D)) : Prop :=
  ∀ (B H : Hp) (p : Addr) (xs : List V) (ds : List D) (vs : List V) (as ds' : List D), H p = some (.lst xs) → Reps false K B xs ds → Reps false K B vs as → g ds as = some ds' →
    ∃ xs', Reps false K B xs' ds' ∧ ∀ Q : VK, (∀ v, Q v (upd H p (.lst xs'))) → r (.ref p) vs H Q
def ownAt (i : Nat) (e : List D) : R (List D) := (ofO e[i]?).bind lstOf
def ownL (i : Nat) (g : List D → List D → Option (List D)) (e ds as : List D) : R Fl := (ofO (g ds as)).bind fun ds' => .ok (.nx (e.set i (.lst ds')))
@[simp] theorem ownAt_eq (i : Nat) (e : List D) : ownAt i e = (ofO e[i]?).bind lstOf := rfl
@[simp] theorem ownL_eq (i : Nat) (g : List D → List D → Option (List D)) (e ds as : List D) : ownL i g e ds as = (ofO (g ds as)).bind fun ds' => .ok (.nx (e.set i (.lst ds'))) := rfl
@[simp] def sOwn (i : Nat) (g : List D → List D → Option (List D)) (fs : List D → R (List D)) (e : List D) : R Fl := (ownAt i e).bind fun ds => (fs e).bind fun as => ownL i g e ds as
section
variable {X : Cx} {G : List Md} {W : WX} {rm : Rm} {spos pos apos pn : Pos} {es : List Expr} {a : Expr} {fs : List D → R (List D)} {i : Nat} {x name : Str} {id : String} {r : V → List V → Hp → VK → Prop} {g : List D → List D → Option (List D)} {ts : List Tg}
theorem own_fin {K : PySem.W.Frag} {mg : Str → Option Value} {B0 H0 B H B1 H1 : Hp} {sg : St} {e as ds : List D} {vs : List V} {Dn : Ends} {p : Addr} (hd : MutL K r g) (S : Sta K G B0 H0 sg e B H) (hG : G[i]? = some .ow) (hs : sg[i]? = some (some (.ref p))) (he : e[i]? = some (.lst ds)) (x1 : Ext B H B1 H1) (rs : Reps false K B1 vs as)
    (k : KS K mg G W rm B0 H0 B Dn (ownL i g e ds as)) : r (.ref p) vs H1 fun _ H2 => Dn.nx sg H2 := by
  have S1 := S.later x1
  obtain ⟨x, d, h1, h2, h3⟩ := S1.sl.get hG
  rw [hs] at h1
  cases h1
  rw [he] at h2
  cases h2
  obtain ⟨hp0, hpb, ho⟩ := h3
  unfold ownL at k
  obtain ⟨xs, hx, hr⟩ := ho
  cases eg : g ds as with
  | none => rw [eg] at k; exact k.elim
  | some ds' =>
    rw [eg] at k
    obtain ⟨xs', hr', q⟩ := hd B1 H1 p xs ds vs as ds' hx hr rs eg
    exact q _ fun _ => k sg B1 _ (S1.mut hG hs (show Own K B1 (upd H1 p (.lst xs')) p (.lst ds') from ⟨xs', upd_same, hr'⟩)) x1.b
/-- the slot's list, and what is asked further -/
theorem own_get {K : PySem.W.Frag} {mg : Str → Option Value} {B0 H0 B H : Hp} {sg : St} {e : List D} {Dn : Ends} {kk : List D → R Fl} (S : Sta K G B0 H0 sg e B H) (hG : G[i]? = some .ow) (k : KS K mg G W rm B0 H0 B Dn ((ownAt i e).bind kk)) :
    ∃ p vs ds, sg[i]? = some (some (.ref p)) ∧ e[i]? = some (.lst ds) ∧ H p = some (.lst vs) ∧ Reps false K B vs ds ∧ KS K mg G W rm B0 H0 B Dn (kk ds) := by
  obtain ⟨v, d, h1, h2, h3⟩ := S.sl.get hG
  obtain ⟨p, rfl, hp0, hpb, ho⟩ := h3.own
  unfold ownAt at k
  rw [h2] at k
  cases d with
  | lst ds =>
    obtain ⟨vs, hh, hr⟩ := ho
    exact ⟨p, vs, ds, h1, h2, hh, hr, k⟩
  | _ => exact k.elim
theorem vs_own (slot : PySem.Slot "list" name id) (ty : typeOf (.builtin id) = pure (.type "method_descriptor")) (hm : MtR X id r) (hd : MutL X.K r g) (ha : PA X (a :: es) (vA X.K X.mg G W ts fs)) (hi : allIm ts = true := by rfl) (hG : G[i]? = some .ow := by rfl) (hN : X.N[i]? = some x := by rfl)
    (hv : Vis X.env.scope x := by first | exact Or.inl rfl | exact Or.inr (Or.inl rfl) | exact Or.inr (Or.inr rfl)) (hdb : (x == ("__debug__" : Str)) = false := by decide) (hcd : (x == ("__classdict__" : Str)) = false := by decide)
    (hs : swapsWith (.Call (.Attribute (.Name x pn) name apos) (a :: es) [] pos) none spos.line X.env = pure false := by rfl)
    (hbase : attributeBase (.Name x pn) name X.env (eval (.Name x pn) X.env) = eval (.Name x pn) X.env := by rfl) (hfew : ((backTo pos (starEach (a :: es) X.env)).all (fun x => !x.1) && (backToKw pos (keywordEach [] X.env)).all (fun x => x.1.isSome)
      && decide ((a :: es).length + ([] : List Keyword).length + (if ([] : List Keyword).isEmpty then 0 else 1) < 30)) = true := by rfl) (he : starEach (a :: es) X.env = (false, eval a X.env) :: starEach es X.env := by rfl) (hpl : (backTo pos (starEach es X.env)).any (·.1) = false := by rfl) (hline : (apos.endLine == pos.line) = true := by rfl) :
    PS X (.Expr (.Call (.Attribute (.Name x pn) name apos) (a :: es) [] pos) spos) (vS X.K X.mg G G W rm (sOwn i g fs)) := by
  refine ps_weak (ps_expr (pe_bm PySem.F.plainAttrs_list slot ty hm (pe_var hN hv hdb hcd) ha hbase hfew hline he hpl) hs) fun Dn sg H ⟨B0, H0, B, e, S, k⟩ => ?_
  obtain ⟨p, vs0, ds, h1, h2, h3, h4, k⟩ := own_get S hG k
  refine ⟨.ref p, h1, .inl ⟨rfl, vs0, SqL.of h3⟩, B0, H0, B, e, S, ?_⟩
  cases ef : fs e with
  | bad => rw [ef] at k; exact k.elim
  | ex c => rw [ef] at k; exact ks_ex S k
  | ok as =>
    rw [ef, R.bind_ok] at k
    intro B1 H1 vs x1 r1
    exact own_fin hd S hG h1 h2 x1 (reps_im hi r1) k
theorem vs_own0 (slot : PySem.Slot "list" name id) (ty : typeOf (.builtin id) = pure (.type "method_descriptor")) (hm : MtR X id r) (hd : MutL X.K r g) (hG : G[i]? = some .ow := by rfl) (hN : X.N[i]? = some x := by rfl)
    (hv : Vis X.env.scope x := by first | exact Or.inl rfl | exact Or.inr (Or.inl rfl) | exact Or.inr (Or.inr rfl)) (hdb : (x == ("__debug__" : Str)) = false := by decide) (hcd : (x == ("__classdict__" : Str)) = false := by decide)
    (hs : swapsWith (.Call (.Attribute (.Name x pn) name apos) [] [] pos) none spos.line X.env = pure false := by rfl)
    (hbase : attributeBase (.Name x pn) name X.env (eval (.Name x pn) X.env) = eval (.Name x pn) X.env := by rfl) (hline : (apos.endLine == pos.line) = true := by rfl) :
    PS X (.Expr (.Call (.Attribute (.Name x pn) name apos) [] [] pos) spos) (vS X.K X.mg G G W rm (sOwn i g aNil)) := by
  refine ps_weak (ps_expr (pe_bm0 PySem.F.plainAttrs_list slot ty hm (pe_var hN hv hdb hcd) hbase hline) hs) fun Dn sg H ⟨B0, H0, B, e, S, k⟩ => ?_
  obtain ⟨p, vs0, ds, h1, h2, h3, h4, k⟩ := own_get S hG k
  exact ⟨.ref p, h1, .inl ⟨rfl, vs0, SqL.of h3⟩, own_fin hd S hG h1 h2 (.refl S.ext.s) .nil k⟩
end
def gApp (ds : List D) : List D → Option (List D)
  | [d] => if ds.length < sizeLine then some (ds ++ [d]) else none
  | _ => none
@[simp] theorem gApp_one (ds : List D) (d : D) : gApp ds [d] = if ds.length < sizeLine then some (ds ++ [d]) else none := rfl
def gClear (_ : List D) : List D → Option (List D)
  | [] => some []
  | _ => none
@[simp] theorem gClear_nil (ds : List D) : gClear ds [] = some [] := rfl
def gRev (ds : List D) : List D → Option (List D)
  | [] => some ds.reverse
  | _ => none
@[simp] theorem gRev_nil (ds : List D) : gRev ds [] = some ds.reverse := rfl
section
variable {K : PySem.W.Frag}
theorem mu_app : MutL K rAppend gApp := by
  intro B H p xs ds vs as ds' hp hr ha e
  unfold gApp at e
  split at e
  · obtain ⟨v, rfl, h⟩ := reps1 ha
    split at e
    · cases e
      exact ⟨xs ++ [v], hr.append (.cons h .nil), fun Q q => ⟨p, xs, v, rfl, rfl, hp, by rw [hr.length]; assumption, q _⟩⟩
    · cases e
  · cases e
theorem mu_clear : MutL K rClear gClear := by
  intro B H p xs ds vs as ds' hp hr ha e
  unfold gClear at e
  split at e
  · cases e
    cases ha
    exact ⟨[], .nil, fun Q q => ⟨p, xs, rfl, rfl, hp, q _⟩⟩
  · cases e
theorem mu_rev : MutL K rReverse gRev := by
  intro B H p xs ds vs as ds' hp hr ha e
  unfold gRev at e
  split at e
  · cases e
    cases ha
    exact ⟨xs.reverse, hr.reverse, fun Q q => ⟨p, xs, rfl, rfl, hp, q _⟩⟩
  · cases e
end
/-! ### x[i] = e, x one's own list -/
def setD (ds : List D) (k d : D) : R (List D) := match k with
  | .int k => (ofO (ixN ds.length k)).bind fun j => .ok (ds.set j d)
  | _ => .bad
@[simp] theorem setD_int (ds : List D) (k : Int) (d : D) : setD ds (.int k) d = (ofO (ixN ds.length k)).bind fun j => .ok (ds.set j d) := rfl
@[simp] def sStore (i : Nat) (fk fv : List D → R D) (e : List D) : R Fl := (ownAt i e).bind fun ds => (fv e).bind fun d => (fk e).bind fun k => (setD ds k d).bind fun ds' => .ok (.nx (e.set i (.lst ds')))
section
variable {X : Cx} {G : List Md} {W : WX} {rm : Rm} {spos pos pn : Pos} {a b : Expr} {fk fv : List D → R D} {i : Nat} {x : Str} {mk : Tg}
theorem vs_store (hv0 : PE X b (vE X.K X.mg G W .im fv)) (hk : PE X a (vE X.K X.mg G W mk fk)) (hG : G[i]? = some .ow := by rfl) (hN : X.N[i]? = some x := by rfl)
    (hv : Vis X.env.scope x := by first | exact Or.inl rfl | exact Or.inr (Or.inl rfl) | exact Or.inr (Or.inr rfl)) (hdb : (x == ("__debug__" : Str)) = false := by decide) (hcd : (x == ("__classdict__" : Str)) = false := by decide)
    (ha : ∀ v, assign (.Subscript (.Name x pn) a pos) X.env v = (do
      let ov ← holding [v] (eval (.Name x pn) X.env)
      let iv ← holding [v, ov] (eval a X.env)
      standAt pos
      holding [v, ov, iv] (setItem ov iv v)
      release [v, ov, iv] []) := by intro _; rfl)
    (hs : swapsWithSole [.Subscript (.Name x pn) a pos] b spos.line X.env = pure false := by rfl) (hw : swappedStores [.Subscript (.Name x pn) a pos] b X.env = pure none := by rfl)
    (h1 : (assignEach [.Subscript (.Name x pn) a pos] X.env).map (·.2) = [assign (.Subscript (.Name x pn) a pos) X.env] := by rfl) :
    PS X (.Assign [.Subscript (.Name x pn) a pos] b spos) (vS X.K X.mg G G W rm (sStore i fk fv)) := by
  refine ps_weak (ps_asg hv0 (pg_sub (pe_var hN hv hdb hcd) hk set_list ha) hs hw h1) fun Dn sg H ⟨B0, H0, B, e, S, k⟩ => ?_
  obtain ⟨p, vs0, ds, h1, h2, h3, h4, k⟩ := own_get S hG k
  refine seq1 (P := KS X.K X.mg G W rm B0 H0 B Dn) S k (fun c k => ks_ex S k) (fun k => k) fun B1 H1 v d x1 S1 r1 k1 => ?_
  refine ⟨.ref p, h1, ?_⟩
  refine seq1 (P := KS X.K X.mg G W rm B0 H0 B Dn) S1 k1 (fun c k => ks_ex S1 (KS.later k x1.b)) (fun k => k) fun B2 H2 y dk x2 S2 r2 k2 => ?_
  have ry := r2.all x2.s S2.ext.h
  cases dk with
  | int kk =>
    cases ry
    cases ej : ixN ds.length kk with
    | none => rw [setD_int, ej] at k2; exact k2.elim
    | some j =>
      rw [setD_int, ej] at k2
      refine ⟨p, vs0, kk, j, rfl, rfl, (x1.h.trans x2.h) _ _ h3, by rw [h4.length]; exact ej, ?_⟩
      have hr : Reps false X.K B2 (vs0.set j v) (ds.set j d) := (h4.mono (x1.b.trans x2.b)).set (Rep.mono x2.b r1) j
      exact k2 sg B2 _ (S2.mut hG h1 (show Own X.K B2 (upd H2 p (.lst (vs0.set j v))) p (.lst (ds.set j d)) from ⟨_, upd_same, hr⟩)) (x1.b.trans x2.b)
  | _ => exact k2.elim
end
/-! ### x op= e -/
@[simp] def sAug (i : Nat) (g : D → D → Option D) (f : List D → R D) (e : List D) : R Fl := (ofO e[i]?).bind fun x => (f e).bind fun y => (ofO (g x y)).bind fun d => .ok (.nx (e.set i d))
section
variable {X : Cx} {G : List Md} {W : WX} {rm : Rm} {pos pn : Pos} {a : Expr} {f : List D → R D} {i : Nat} {x : Str} {m : Tg} {op : Operator} {r : R2} {g : D → D → Option D}
theorem vs_aug (ho : OpR X (inplaceOp op) r) (hd : Does2 X.K r g) (he : PE X a (vE X.K X.mg G W m f)) (hN : X.N.Nodup) (hG : G[i]? = some .im := by rfl) (hi : X.N[i]? = some x := by rfl) (hx : Loc X.env.scope x := by first | exact Or.inl rfl | exact Or.inr rfl)
    (hf : X.fn x = true ∨ X.env.scope.names.lookup x = some .local := by first | exact .inl rfl | exact .inr rfl) : PS X (.AugAssign (.Name x pn) op a pos) (vS X.K X.mg G (G.set i .im) W rm (sAug i g f)) := by
  refine ps_weak (ps_aug hN hi hx he ho hf) fun Dn sg H ⟨B0, H0, B, e, S, k⟩ => ?_
  obtain ⟨v, d, h1, h2, h3⟩ := S.sl.get hG
  cases v with
  | none => exact h3.elim
  | some v =>
    unfold sAug at k
    rw [h2, ofO_some, R.bind_ok] at k
    refine ⟨v, h1, ?_⟩
    refine seq1 (P := KS X.K X.mg (G.set i .im) W rm B0 H0 B Dn) S k (fun c k => ks_ex S k) (fun k => k) fun B1 H1 y dy x1 S1 r1 k1 => ?_
    cases eg : g d dy with
    | none => rw [eg] at k1; exact k1.elim
    | some dz =>
      rw [eg] at k1
      exact hd H1 v y d dy dz _ (Rep.mono (S.ext.s.trans x1.h) h3).wide (r1.all x1.s S1.ext.h) eg fun z hz => k1 _ B1 H1 (S1.set i (m := .im) (hz _) (fun q => by cases q)) x1.b
end
/-! ### contents -/
def isC : Tg → Bool
  | .im => true | .fr => true | .oc => true | _ => false
@[simp] theorem isC_im : isC .im = true := rfl
@[simp] theorem isC_fr : isC .fr = true := rfl
@[simp] theorem isC_oc : isC .oc = true := rfl
@[simp] theorem isC_ar : isC .ar = false := rfl
@[simp] theorem isC_lo : isC .lo = false := rfl
@[simp] def cnOk (m : Tg) (ds : List D) : Bool := isC m || ds.all flatD
theorem flat_reps {c c' : Bool} {K : PySem.W.Frag} {B B' : Hp} : ∀ {vs : List V} {ds : List D}, Reps c K B vs ds → ds.all flatD = true → Reps c' K B' vs ds
  | _, _, .nil, _ => .nil
  | _, _, .cons h r, f => by
    rw [List.all_cons, Bool.and_eq_true] at f
    exact .cons (flat_rep h f.1) (flat_reps r f.2)
section
variable {K : PySem.W.Frag} {H0 B H H' : Hp} {m : Tg} {v : V} {ds : List D}
theorem RepT.cnL (r : RepT K H0 H B H' m v (.lst ds)) (s : Same B H') (s0 : Same H0 H') (hc : cnOk m ds = true) : ∃ p vs, v = .ref p ∧ SqL K H' p vs ∧ Reps false K B vs ds := by
  cases m with
  | im =>
    obtain ⟨a, vs, rfl, h, q⟩ := Rep.sq r
    exact ⟨_, _, rfl, s.seq h, q⟩
  | ar =>
    obtain ⟨a, vs, rfl, h, q⟩ := Rep.sq r
    exact ⟨_, _, rfl, s0.seq h, flat_reps q hc⟩
  | lo =>
    obtain ⟨a, vs, rfl, h, q⟩ := Rep.sq r
    exact ⟨_, _, rfl, h, flat_reps q hc⟩
  | fr =>
    obtain ⟨p, rfl, _, _, vs, h, q⟩ := r
    exact ⟨p, vs, rfl, SqL.of h, q⟩
  | oc =>
    obtain ⟨p, rfl, vs, h, q⟩ := r
    exact ⟨p, vs, rfl, SqL.of h, q⟩
theorem RepT.cnR (r : RepT K H0 H B H' m v (.lst ds)) (s : Same B H') (hc : isC m = true) : ∃ p vs, v = .ref p ∧ Rd H' p (.lst vs) ∧ Reps false K B vs ds := by
  cases m with
  | im =>
    obtain ⟨a, vs, rfl, h, q⟩ := Rep.rd r
    exact ⟨_, _, rfl, same_rd s h, q⟩
  | ar => cases hc
  | lo => cases hc
  | fr =>
    obtain ⟨p, rfl, _, _, vs, h, q⟩ := r
    exact ⟨p, vs, rfl, .inl h, q⟩
  | oc =>
    obtain ⟨p, rfl, vs, h, q⟩ := r
    exact ⟨p, vs, rfl, .inl h, q⟩
theorem RepT.cnT (r : RepT K H0 H B H' m v (.tup ds)) (s : Same B H') (s0 : Same H0 H') (hc : cnOk m ds = true) : ∃ p vs, v = .ref p ∧ SqT K H' p vs ∧ Reps false K B vs ds := by
  cases m with
  | im =>
    obtain ⟨a, vs, rfl, h, q⟩ := Rep.rdT r
    exact ⟨_, _, rfl, .inl (same_rd s h), q⟩
  | ar =>
    obtain ⟨a, vs, rfl, h, q⟩ := Rep.rdT r
    exact ⟨_, _, rfl, .inl (same_rd s0 h), flat_reps q hc⟩
  | lo =>
    obtain ⟨a, vs, rfl, h, q⟩ := Rep.rdT r
    exact ⟨_, _, rfl, .inl h, flat_reps q hc⟩
  | fr =>
    obtain ⟨p, rfl, _, _, h⟩ := r
    exact h.elim
  | oc =>
    obtain ⟨p, rfl, h⟩ := r
    exact h.elim
end
end L2.VL
set_option Elab.async false
set_option linter.all false
set_option maxRecDepth 100000
set_option maxHeartbeats 4000000
namespace L2.VL
open PySem PySem.Spec PyProof.Rows

/-! ### slices -/
def cutL {α : Type} (xs : List α) (lo hi : Option Int) : List α := (xs.drop (HT.sIx xs.length 0 lo)).take (HT.sIx xs.length xs.length hi - HT.sIx xs.length 0 lo)
theorem reps_cut {c : Bool} {K : PySem.W.Frag} {B : Hp} {vs : List V} {ds : List D} (r : Reps c K B vs ds) (lo hi : Option Int) : Reps c K B (cutV vs lo hi) (cutL ds lo hi) := by
  unfold cutV cutL
  rw [r.length]
  exact (r.drop _).take _
/-- a part of a slice: left out, or a whole number -/
def prtOf : Option D → R (Option Int)
  | none => .ok none
  | some (.int i) => .ok (some i)
  | _ => .bad
@[simp] theorem prtOf_none : prtOf none = .ok none := rfl
@[simp] theorem prtOf_int (i : Int) : prtOf (some (.int i)) = .ok (some i) := rfl
@[simp] def pNo (_ : List D) : R (Option Int) := .ok none
@[simp] def pAt (f : List D → R D) (e : List D) : R (Option Int) := (f e).bind fun d => prtOf (some d)
def slD (m : Tg) (lo hi : Option Int) : D → R D
  | .lst ds => if cnOk m ds then .ok (.lst (cutL ds lo hi)) else .bad
  | _ => .bad
def slS (lo hi : Option Int) : D → R D
  | .str z => if z.length ≤ sizeLine then .ok (.str (cutS z lo hi)) else .bad
  | _ => .bad
@[simp] theorem slD_lst (m : Tg) (lo hi : Option Int) (ds : List D) : slD m lo hi (.lst ds) = if cnOk m ds then .ok (.lst (cutL ds lo hi)) else .bad := rfl
@[simp] theorem slS_str (lo hi : Option Int) (z : Str) : slS lo hi (.str z) = if z.length ≤ sizeLine then .ok (.str (cutS z lo hi)) else .bad := rfl
@[simp] def eSlL (m : Tg) (f : List D → R D) (pl ph : List D → R (Option Int)) (e : List D) : R D := (f e).bind fun d => (pl e).bind fun lo => (ph e).bind fun hi => slD m lo hi d
@[simp] def eSlS (f : List D → R D) (pl ph : List D → R (Option Int)) (e : List D) : R D := (f e).bind fun d => (pl e).bind fun lo => (ph e).bind fun hi => slS lo hi d
def KO (mg : Str → Option Value) (W : WX) (sg : St) (B H : Hp) (Q : Option Int → Hp → Prop) : R (Option Int) → Prop
  | .ok b => ∀ B' H', Ext B H B' H' → Q b H'
  | .ex c => ∀ B' H' a, Ext B H B' H' → mg c = some (.ref a) → W (.ref a) none sg H'
  | .bad => False
def vO (K : PySem.W.Frag) (mg : Str → Option Value) (G : List Md) (W : WX) (f : List D → R (Option Int)) : TO := fun sg H Q =>
  ∃ B0 H0 B e, Sta K G B0 H0 sg e B H ∧ KO mg W sg B H Q (f e)
theorem po_weak {X : Cx} {o : Option Expr} {t t' : TO} (h : PO X o t) (w : ∀ sg H Q, t' sg H Q → t sg H Q) : PO X o t' := ⟨fun pins s σ H Q I q => h.run pins s σ H Q I (w σ H Q q)⟩
section
variable {X : Cx} {G : List Md} {W : WX} {a : Expr} {f : List D → R D} {m : Tg} {lo hi : Option Expr} {pl ph : List D → R (Option Int)} {p2 pos : Pos}
theorem vo_none : PO X none (vO X.K X.mg G W pNo) := po_weak po_none fun sg H Q ⟨B0, H0, B, e, S, k⟩ => k B H (.refl S.ext.s)
theorem vo_some (h : PE X a (vE X.K X.mg G W m f)) : PO X (some a) (vO X.K X.mg G W (pAt f)) := by
  refine po_weak (po_some h) fun sg H Q ⟨B0, H0, B, e, S, k⟩ => ?_
  refine seq1 (P := KO X.mg W sg B H Q) S k (fun c k => k) (fun k => k) fun B1 H1 x d x1 S1 r1 k1 => ?_
  have r := r1.all x1.s S1.ext.h
  cases r with
  | int i => exact ⟨i, rfl, k1 B1 H1 x1⟩
  | _ => exact k1.elim
theorem seqO {α : Type} {K : PySem.W.Frag} {mg : Str → Option Value} {sg : St} {H H0 B0 B : Hp} {e : List D} {kk : Option Int → R α} {P : R α → Prop} (S : Sta K G B0 H0 sg e B H) {Rr : Option Int → Hp → Prop}
    (h : P ((pl e).bind kk)) (hx : ∀ c, P (.ex c) → ∀ B' H' a, Ext B H B' H' → mg c = some (.ref a) → W (.ref a) none sg H') (hb : ¬ P .bad)
    (fin : ∀ B1 H1 b, Ext B H B1 H1 → Sta K G B0 H0 sg e B1 H1 → P (kk b) → Rr b H1) : vO K mg G W pl sg H Rr := by
  refine ⟨B0, H0, B, e, S, ?_⟩
  cases ea : pl e with
  | bad => rw [ea] at h; exact (hb h).elim
  | ex c => rw [ea] at h; exact hx c h
  | ok d =>
    rw [ea] at h
    exact fun B1 H1 x1 => fin B1 H1 d x1 (S.later x1) h
theorem slice_of {K : PySem.W.Frag} {mg : Str → Option Value} {r : V → Option Int → Option Int → Hp → VK → Prop} {kk : Option Int → Option Int → D → R D} {mr : Tg} (sg : St) (H : Hp) (Q : VK)
    (h : vE K mg G W mr (fun e => (f e).bind fun d => (pl e).bind fun lo => (ph e).bind fun hi => kk lo hi d) sg H Q)
    (fin : ∀ B0 H0 B e B2 H2 x d lo hi, Sta K G B0 H0 sg e B2 H2 → Ext B H B2 H2 → RepT K H0 H B2 H2 m x d → KE K mg W sg H0 B H Q mr (kk lo hi d) → r x lo hi H2 Q) :
    tSl r (vE K mg G W m f) (vO K mg G W pl) (vO K mg G W ph) sg H Q := by
  obtain ⟨B0, H0, B, e, S, k⟩ := h
  refine seq1 (P := KE K mg W sg H0 B H Q mr) S k (fun c k => k.ex_of) (fun k => k) fun B1 H1 x d x1 S1 r1 k1 => ?_
  refine seqO (P := KE K mg W sg H0 B H Q mr) S1 k1 (fun c k B' H' a y hm => k B' H' a (x1.trans y) hm) (fun k => k) fun B2 H2 lo x2 S2 k2 => ?_
  refine seqO (P := KE K mg W sg H0 B H Q mr) S2 k2 (fun c k B' H' a y hm => k B' H' a ((x1.trans x2).trans y) hm) (fun k => k) fun B3 H3 hi x3 S3 k3 => ?_
  exact fin B0 H0 B e B3 H3 x d lo hi S3 ((x1.trans x2).trans x3) (r1.later (x2.trans x3)) k3
theorem ve_slL (ha : PE X a (vE X.K X.mg G W m f)) (hl : PO X lo (vO X.K X.mg G W pl)) (hh : PO X hi (vO X.K X.mg G W ph)) : PE X (.Subscript a (.Slice lo hi none p2) pos) (vE X.K X.mg G W .fr (eSlL m f pl ph)) := by
  refine pe_weak (pe_slice sl_list ha hl hh) fun sg H Q h => slice_of (kk := fun lo hi d => slD m lo hi d) sg H Q h fun B0 H0 B e B2 H2 x d l u S2 x2 r k => ?_
  cases d with
  | lst ds =>
    rw [slD_lst] at k
    by_cases hc : cnOk m ds = true
    · rw [if_pos hc] at k
      obtain ⟨p, vs, rfl, hp, hr⟩ := r.cnL x2.s S2.ext.h hc
      refine ⟨p, vs, rfl, hp, fun q hq => ?_⟩
      exact k B2 _ _ (x2.trans (.newH x2.s hq)) ⟨q, rfl, x2.h.free hq, x2.s.free hq, _, upd_same, reps_cut hr l u⟩
    · rw [if_neg hc] at k; exact k.elim
  | _ => exact k.elim
theorem ve_slS (ha : PE X a (vE X.K X.mg G W m f)) (hl : PO X lo (vO X.K X.mg G W pl)) (hh : PO X hi (vO X.K X.mg G W ph)) : PE X (.Subscript a (.Slice lo hi none p2) pos) (vE X.K X.mg G W .im (eSlS f pl ph)) := by
  refine pe_weak (pe_slice sl_str ha hl hh) fun sg H Q h => slice_of (kk := fun lo hi d => slS lo hi d) sg H Q h fun B0 H0 B e B2 H2 x d l u S2 x2 r k => ?_
  have q := r.all x2.s S2.ext.h
  cases q with
  | str z =>
    rw [slS_str] at k
    by_cases hc : z.length ≤ sizeLine
    · rw [if_pos hc] at k
      exact ⟨z, rfl, hc, k B2 H2 _ x2 (.str _)⟩
    · rw [if_neg hc] at k; exact k.elim
  | _ => exact k.elim
end
/-! ### list(x), tuple(x) -/
def asL (m : Tg) : D → R D
  | .lst ds => if cnOk m ds then .ok (.lst ds) else .bad
  | .tup ds => if cnOk m ds then .ok (.lst ds) else .bad
  | _ => .bad
def asT (m : Tg) : D → R D
  | .lst ds => if cnOk m ds then .ok (.tup ds) else .bad
  | _ => .bad
@[simp] theorem asL_lst (m : Tg) (ds : List D) : asL m (.lst ds) = if cnOk m ds then .ok (.lst ds) else .bad := rfl
@[simp] theorem asL_tup (m : Tg) (ds : List D) : asL m (.tup ds) = if cnOk m ds then .ok (.lst ds) else .bad := rfl
@[simp] theorem asT_lst (m : Tg) (ds : List D) : asT m (.lst ds) = if cnOk m ds then .ok (.tup ds) else .bad := rfl
@[simp] def eAsL (m : Tg) (f : List D → R D) (e : List D) : R D := (f e).bind (asL m)
@[simp] def eAsT (m : Tg) (f : List D → R D) (e : List D) : R D := (f e).bind (asT m)
section
variable {X : Cx} {G : List Md} {W : WX} {a : Expr} {f : List D → R D} {m : Tg} {p pos : Pos}
theorem ve_list (hm : X.mg "list" = none) (ha : PE X a (vE X.K X.mg G W m f)) (hg : Gl X "list" := by rfl) (he : starEach [a] X.env = (false, eval a X.env) :: starEach [] X.env := by rfl) (hpl : (backTo pos (starEach [] X.env)).any (·.1) = false := by rfl) :
    PE X (.Call (.Name "list" p) [a] [] pos) (vE X.K X.mg G W .fr (eAsL m f)) := by
  refine pe_weak (pe_callTy call_list_of hg hm (by decide +kernel) (pa_cons ha pa_nil he) (by decide) (by decide) he hpl) fun sg H Q ⟨B0, H0, B, e, S, k⟩ => ?_
  refine seq1 (P := KE X.K X.mg W sg H0 B H Q .fr) S k (fun c k => k) (fun k => k) fun B1 H1 x d x1 S1 r1 k1 => ?_
  have fin : ∀ {p vs ds}, x = .ref p → (SqL X.K H1 p vs ∨ SqT X.K H1 p vs) → Reps false X.K B1 vs ds → KE X.K X.mg W sg H0 B H Q .fr (.ok (.lst ds)) → ∃ p ys, [x] = [V.ref p] ∧ (SqL X.K H1 p ys ∨ SqT X.K H1 p ys) ∧ ∀ l, H1 l = none → Q (.ref l) (upd H1 l (.lst ys)) := fun {p vs ds} ex hp hr k =>
    ⟨p, vs, by rw [ex], hp, fun l hl => k B1 _ _ (x1.trans (.newH x1.s hl)) ⟨l, rfl, x1.h.free hl, x1.s.free hl, _, upd_same, hr⟩⟩
  cases d with
  | lst ds =>
    rw [asL_lst] at k1
    by_cases hc : cnOk m ds = true
    · rw [if_pos hc] at k1
      obtain ⟨q, vs, ex, hp, hr⟩ := r1.cnL x1.s S1.ext.h hc
      exact fin ex (.inl hp) hr k1
    · rw [if_neg hc] at k1; exact k1.elim
  | tup ds =>
    rw [asL_tup] at k1
    by_cases hc : cnOk m ds = true
    · rw [if_pos hc] at k1
      obtain ⟨q, vs, ex, hp, hr⟩ := r1.cnT x1.s S1.ext.h hc
      exact fin ex (.inr hp) hr k1
    · rw [if_neg hc] at k1; exact k1.elim
  | _ => exact k1.elim
theorem ve_tuple (hm : X.mg "tuple" = none) (ha : PE X a (vE X.K X.mg G W m f)) (hg : Gl X "tuple" := by rfl) (he : starEach [a] X.env = (false, eval a X.env) :: starEach [] X.env := by rfl) (hpl : (backTo pos (starEach [] X.env)).any (·.1) = false := by rfl) :
    PE X (.Call (.Name "tuple" p) [a] [] pos) (vE X.K X.mg G W .im (eAsT m f)) := by
  refine pe_weak (pe_callTy call_tupF hg hm (by decide +kernel) (pa_cons ha pa_nil he) (by decide) (by decide) he hpl) fun sg H Q ⟨B0, H0, B, e, S, k⟩ => ?_
  refine seq1 (P := KE X.K X.mg W sg H0 B H Q .im) S k (fun c k => k) (fun k => k) fun B1 H1 x d x1 S1 r1 k1 => ?_
  cases d with
  | lst ds =>
    rw [asT_lst] at k1
    by_cases hc : cnOk m ds = true
    · rw [if_pos hc] at k1
      obtain ⟨q, vs, rfl, hp, hr⟩ := r1.cnL x1.s S1.ext.h hc
      refine ⟨q, vs, rfl, .inl ⟨hp, fun l o hl ho => ?_⟩⟩
      have x2 : Ext B1 H1 (upd B1 l (.frz o (.tup vs))) (upd H1 l (.frz o (.tup vs))) := .newB x1.s hl
      exact k1 _ _ _ (x1.trans x2) (.tup ⟨o, upd_same, ho⟩ (hr.mono x2.b))
    · rw [if_neg hc] at k1; exact k1.elim
  | _ => exact k1.elim
end
/-! ### lists and tuples put together -/
def catL : D → D → R D
  | .lst as, .lst bs => if as.length + bs.length ≤ sizeLine then .ok (.lst (as ++ bs)) else .bad
  | _, _ => .bad
def catT : D → D → R D
  | .tup as, .tup bs => if as.length + bs.length ≤ sizeLine then .ok (.tup (as ++ bs)) else .bad
  | _, _ => .bad
@[simp] theorem catL_lst (as bs : List D) : catL (.lst as) (.lst bs) = if as.length + bs.length ≤ sizeLine then .ok (.lst (as ++ bs)) else .bad := rfl
@[simp] theorem catT_tup (as bs : List D) : catT (.tup as) (.tup bs) = if as.length + bs.length ≤ sizeLine then .ok (.tup (as ++ bs)) else .bad := rfl
@[simp] def eCatL (f g : List D → R D) (e : List D) : R D := (f e).bind fun x => (g e).bind fun y => catL x y
@[simp] def eCatT (f g : List D → R D) (e : List D) : R D := (f e).bind fun x => (g e).bind fun y => catT x y
def rCatR : R2 := fun x y H Q => ∃ l b xs zs, x = .ref l ∧ y = .ref b ∧ Rd H l (.lst xs) ∧ Rd H b (.lst zs) ∧ xs.length + zs.length ≤ sizeLine ∧ ∀ p, H p = none → Q (.ref p) (upd H p (.lst (xs ++ zs)))
section
variable {X : Cx} {G : List Md} {W : WX} {a b : Expr} {f g : List D → R D} {m1 m2 : Tg} {pos : Pos}
theorem inv_rdL {pins : List (Addr × Obj)} {sg : St} {H : Hp} {s : Shared} {l : Addr} {xs : List V} (I : Inv X pins sg H s) (h : Rd H l (.lst xs)) : ∃ (its : List Value) (n : Nat), Vals xs its ∧ s.heap.get? l = some { cls := .type "list", data := .seq its.toArray n } := by
  obtain ⟨_, its, n, r, e⟩ := h.ok I.hok
  exact ⟨its, n, r, e⟩
theorem op_catR : OpR X (binaryOp .Add) rCatR := by
  intro pins s sg H x y v u Q I rx ry hh
  obtain ⟨l, b, xs, zs, rfl, rfl, hl, hb, hz, q⟩ := hh
  cases rx
  cases ry
  obtain ⟨i1, n1, r1, e1⟩ := inv_rdL I hl
  obtain ⟨i2, n2, r2, e2⟩ := inv_rdL I hb
  have z1 := r1.length
  have z2 := r2.length
  refine PySem.P.add_list e1 e2 ?_ (by rw [List.size_toArray, List.size_toArray]; omega)
  rw [show i1.toArray ++ i2.toArray = (i1 ++ i2).toArray by simp]
  exact ⟨.ref _, _, I.lnew (t' := s.toks) (r1.append r2) (by rw [List.length_append]; omega), rfl, q _ I.fresh⟩
theorem ve_catL (ha : PE X a (vE X.K X.mg G W m1 f)) (hb : PE X b (vE X.K X.mg G W m2 g)) (h1 : isC m1 = true := by rfl) (h2 : isC m2 = true := by rfl) : PE X (.BinOp a .Add b pos) (vE X.K X.mg G W .fr (eCatL f g)) := by
  refine pe_weak (pe_op op_catR ha hb) fun sg H Q h => ?_
  refine seq2 (kk := fun x y => catL x y) h fun B0 H0 B e B2 H2 x y d1 d2 S S2 x2 r1 r2 k => ?_
  cases d1 with
  | lst as =>
    cases d2 with
    | lst bs =>
      obtain ⟨p, vs, rfl, hp, hr⟩ := r1.cnR x2.s h1
      obtain ⟨p', vs', rfl, hp', hr'⟩ := r2.cnR x2.s h2
      rw [catL_lst] at k
      by_cases hz : as.length + bs.length ≤ sizeLine
      · rw [if_pos hz] at k
        refine ⟨p, p', vs, vs', rfl, rfl, hp, hp', by rw [hr.length, hr'.length]; exact hz, fun q hq => ?_⟩
        exact k B2 _ _ (x2.trans (.newH x2.s hq)) ⟨q, rfl, x2.h.free hq, x2.s.free hq, _, upd_same, hr.append hr'⟩
      · rw [if_neg hz] at k; exact k.elim
    | _ => exact k.elim
  | _ => exact k.elim
theorem ve_catT (ha : PE X a (vE X.K X.mg G W .im f)) (hb : PE X b (vE X.K X.mg G W .im g)) : PE X (.BinOp a .Add b pos) (vE X.K X.mg G W .im (eCatT f g)) := by
  refine pe_weak (pe_op op_catF ha hb) fun sg H Q h => ?_
  refine seq2 (kk := fun x y => catT x y) h fun B0 H0 B e B2 H2 x y d1 d2 S S2 x2 r1 r2 k => ?_
  cases d1 with
  | tup as =>
    cases d2 with
    | tup bs =>
      have q1 : Rep false X.K B2 x (.tup as) := r1
      have q2 : Rep false X.K B2 y (.tup bs) := r2
      obtain ⟨p, vs, rfl, hp, hr⟩ := Rep.rdT q1
      obtain ⟨p', vs', rfl, hp', hr'⟩ := Rep.rdT q2
      rw [catT_tup] at k
      by_cases hz : as.length + bs.length ≤ sizeLine
      · rw [if_pos hz] at k
        refine ⟨p, p', vs, vs', rfl, rfl, .inl (same_rd x2.s hp), .inl (same_rd x2.s hp'), by rw [hr.length, hr'.length]; exact hz, fun z => ?_, fun _ z => ?_, fun _ _ q o hq ho => ?_⟩
        · subst z
          cases hr
          exact k B2 H2 _ x2 q2
        · subst z
          cases hr'
          rw [List.append_nil] at k
          exact k B2 H2 _ x2 q1
        · have x3 : Ext B2 H2 (upd B2 q (.frz o (.tup (vs ++ vs')))) (upd H2 q (.frz o (.tup (vs ++ vs')))) := .newB x2.s hq
          exact k _ _ _ (x2.trans x3) (.tup ⟨o, upd_same, ho⟩ ((hr.append hr').mono x3.b))
      · rw [if_neg hz] at k; exact k.elim
    | _ => exact k.elim
  | _ => exact k.elim
end
/-! ### [..] * n, text * n -/
def mulL : D → D → R D
  | .lst as, .int k => if -(2 ^ 63) ≤ k ∧ k < 2 ^ 63 ∧ as.length * k.toNat ≤ sizeLine then .ok (.lst (List.replicate k.toNat as).flatten) else .bad
  | _, _ => .bad
@[simp] theorem mulL_lst (as : List D) (k : Int) : mulL (.lst as) (.int k) = if -(2 ^ 63) ≤ k ∧ k < 2 ^ 63 ∧ as.length * k.toNat ≤ sizeLine then .ok (.lst (List.replicate k.toNat as).flatten) else .bad := rfl
@[simp] def eMulL (f g : List D → R D) (e : List D) : R D := (f e).bind fun x => (g e).bind fun y => mulL x y
theorem reps_rep {c : Bool} {K : PySem.W.Frag} {B : Hp} {vs : List V} {ds : List D} (r : Reps c K B vs ds) : ∀ n : Nat, Reps c K B (List.replicate n vs).flatten (List.replicate n ds).flatten
  | 0 => .nil
  | n + 1 => by
    rw [List.replicate_succ, List.replicate_succ, List.flatten_cons, List.flatten_cons]
    exact r.append (reps_rep r n)
section
variable {X : Cx} {G : List Md} {W : WX} {a b : Expr} {f g : List D → R D} {m2 : Tg} {pos : Pos}
theorem ve_mulL (ha : PE X a (vE X.K X.mg G W .fr f)) (hb : PE X b (vE X.K X.mg G W m2 g)) : PE X (.BinOp a .Mult b pos) (vE X.K X.mg G W .fr (eMulL f g)) := by
  refine pe_weak (pe_op op_rep ha hb) fun sg H Q h => ?_
  refine seq2 (kk := fun x y => mulL x y) h fun B0 H0 B e B2 H2 x y d1 d2 S S2 x2 r1 r2 k => ?_
  cases d1 with
  | lst as =>
    have q2 := r2.all x2.s S2.ext.h
    cases q2 with
    | int n =>
      obtain ⟨p, rfl, _, _, vs, hp, hr⟩ := r1
      rw [mulL_lst] at k
      by_cases hz : -(2 ^ 63) ≤ n ∧ n < 2 ^ 63 ∧ as.length * n.toNat ≤ sizeLine
      · rw [if_pos hz] at k
        refine ⟨p, n, vs, rfl, rfl, hp, hz.1, hz.2.1, by rw [hr.length]; exact hz.2.2, fun q hq => ?_⟩
        exact k B2 _ _ (x2.trans (.newH x2.s hq)) ⟨q, rfl, x2.h.free hq, x2.s.free hq, _, upd_same, reps_rep hr _⟩
      · rw [if_neg hz] at k; exact k.elim
    | _ => exact k.elim
  | _ => exact k.elim
end
/-! ### is of bools -/
def gIsB : D → D → Option D
  | .bl a, .bl b => some (.bl (decide (a = b)))
  | _, _ => none
def gIsntB : D → D → Option D
  | .bl a, .bl b => some (.bl (!decide (a = b)))
  | _, _ => none
@[simp] theorem gIsB_bl (a b : Bool) : gIsB (.bl a) (.bl b) = some (.bl (decide (a = b))) := rfl
@[simp] theorem gIsntB_bl (a b : Bool) : gIsntB (.bl a) (.bl b) = some (.bl (!decide (a = b))) := rfl
theorem d_isB {K : PySem.W.Frag} : Does2 K rIsB gIsB := by
  intro H x y d1 d2 d Q r1 r2 e q
  cases r1 with
  | bl a =>
    cases r2 with
    | bl b => cases e; exact ⟨a, b, rfl, rfl, q _ fun _ => .bl _⟩
    | _ => cases e
  | _ => cases e
theorem d_isntB {K : PySem.W.Frag} : Does2 K rNotB gIsntB := by
  intro H x y d1 d2 d Q r1 r2 e q
  cases r1 with
  | bl a =>
    cases r2 with
    | bl b => cases e; exact ⟨a, b, rfl, rfl, q _ fun _ => .bl _⟩
    | _ => cases e
  | _ => cases e
/-! ### in a list or tuple of flat things; one sign in a text -/
def eqFl : D → D → Bool
  | .non, .non => true
  | .bl a, .bl b => a == b
  | .bl a, .int b => (if a then 1 else 0) == b
  | .int a, .bl b => a == (if b then 1 else 0)
  | .int a, .int b => a == b
  | .str a, .str b => a == b
  | _, _ => false
def inDs (x : D) (ds : List D) : Option Bool := if flatD x && ds.all flatD then some (ds.any fun y => eqFl y x) else none
def gIn (x : D) : D → Option D
  | .lst ds => (inDs x ds).map .bl
  | .tup ds => (inDs x ds).map .bl
  | _ => none
def gNotIn (x : D) : D → Option D
  | .lst ds => (inDs x ds).map fun b => .bl (!b)
  | .tup ds => (inDs x ds).map fun b => .bl (!b)
  | _ => none
@[simp] theorem gIn_lst (x : D) (ds : List D) : gIn x (.lst ds) = (inDs x ds).map .bl := rfl
@[simp] theorem gIn_tup (x : D) (ds : List D) : gIn x (.tup ds) = (inDs x ds).map .bl := rfl
@[simp] theorem gNotIn_lst (x : D) (ds : List D) : gNotIn x (.lst ds) = (inDs x ds).map fun b => .bl (!b) := rfl
@[simp] theorem gNotIn_tup (x : D) (ds : List D) : gNotIn x (.tup ds) = (inDs x ds).map fun b => .bl (!b) := rfl
section
variable {K : PySem.W.Frag} {H : Hp}
theorem flat_v {x : V} {d : D} (r : Rep true K H x d) (h : flatD d = true) : flatV x = true := by
  cases r <;> first | rfl | cases h
theorem eq_v {x y : V} {d d' : D} (r : Rep true K H x d) (r' : Rep true K H y d') (h : flatD d = true) (h' : flatD d' = true) : eqV x y = eqFl d d' := by
  cases r <;> cases r' <;> rfl
theorem flat_vs : ∀ {vs : List V} {ds : List D}, Reps true K H vs ds → ds.all flatD = true → vs.all flatV = true
  | _, _, .nil, _ => rfl
  | _, _, .cons r t, h => by
    rw [List.all_cons, Bool.and_eq_true] at h ⊢
    exact ⟨flat_v r h.1, flat_vs t h.2⟩
theorem in_vs {x : V} {d : D} (r : Rep true K H x d) (h : flatD d = true) : ∀ {vs : List V} {ds : List D}, Reps true K H vs ds → ds.all flatD = true → inV x vs = ds.any fun y => eqFl y d
  | _, _, .nil, _ => rfl
  | _, _, .cons q t, h' => by
    rw [List.all_cons, Bool.and_eq_true] at h'
    have ih := in_vs r h t h'.2
    unfold inV at ih ⊢
    rw [List.any_cons, List.any_cons, ih, eq_v q r h'.1 h]
theorem d_in : Does2 K (rIn K false) gIn := by
  intro H x y d1 d2 d Q r1 r2 e q
  have fin : ∀ {p : Addr} {vs : List V} {ds : List D}, y = .ref p → (SqL K H p vs ∨ SqT K H p vs) → Reps true K H vs ds → (inDs d1 ds).map D.bl = some d → rIn K false x y H Q := fun {p vs ds} ey hp hr e => by
    unfold inDs at e
    by_cases hf : (flatD d1 && ds.all flatD) = true
    · rw [if_pos hf] at e
      rw [Bool.and_eq_true] at hf
      cases e
      refine ⟨p, vs, ey, hp, flat_v r1 hf.1, flat_vs hr hf.2, ?_⟩
      rw [if_neg (by decide), in_vs r1 hf.1 hr hf.2]
      exact q _ fun _ => .bl _
    · rw [if_neg hf] at e; cases e
  cases d2 with
  | lst ds =>
    obtain ⟨p, vs, rfl, hp, hr⟩ := r2.sq
    exact fin rfl (.inl hp) hr e
  | tup ds =>
    obtain ⟨p, vs, rfl, hp, hr⟩ := r2.rdT
    exact fin rfl (.inr (.inl hp)) hr e
  | _ => cases e
theorem d_notIn : Does2 K (rIn K true) gNotIn := by
  intro H x y d1 d2 d Q r1 r2 e q
  have fin : ∀ {p : Addr} {vs : List V} {ds : List D}, y = .ref p → (SqL K H p vs ∨ SqT K H p vs) → Reps true K H vs ds → (inDs d1 ds).map (fun b => D.bl (!b)) = some d → rIn K true x y H Q := fun {p vs ds} ey hp hr e => by
    unfold inDs at e
    by_cases hf : (flatD d1 && ds.all flatD) = true
    · rw [if_pos hf] at e
      rw [Bool.and_eq_true] at hf
      cases e
      refine ⟨p, vs, ey, hp, flat_v r1 hf.1, flat_vs hr hf.2, ?_⟩
      rw [if_pos rfl, in_vs r1 hf.1 hr hf.2]
      exact q _ fun _ => .bl _
    · rw [if_neg hf] at e; cases e
  cases d2 with
  | lst ds =>
    obtain ⟨p, vs, rfl, hp, hr⟩ := r2.sq
    exact fin rfl (.inl hp) hr e
  | tup ds =>
    obtain ⟨p, vs, rfl, hp, hr⟩ := r2.rdT
    exact fin rfl (.inr (.inl hp)) hr e
  | _ => cases e
end
theorem op_inA {X : Cx} : OpR X (compareOp .In) (rIn X.K false) := op_in_seq
theorem op_notInA {X : Cx} : OpR X (compareOp .NotIn) (rIn X.K true) := op_notIn_seq
def sign1 (x : Str) : Option Nat := match x.cps.toList with
  | [c] => some c
  | _ => none
theorem sign1_eq {x : Str} {c : Nat} (h : sign1 x = some c) : x = ⟨#[c]⟩ := by
  obtain ⟨⟨l⟩⟩ := x
  unfold sign1 at h
  split at h
  · rename_i c' e
    cases h
    have e : l = [c] := e
    rw [e]
  · cases h
@[simp] theorem sign1_one (c : Nat) : sign1 ⟨#[c]⟩ = some c := rfl
def gInS : D → D → Option D
  | .str x, .str z => (sign1 x).map fun c => .bl (decide (c ∈ z.cps.toList))
  | _, _ => none
def gNotInS : D → D → Option D
  | .str x, .str z => (sign1 x).map fun c => .bl (!decide (c ∈ z.cps.toList))
  | _, _ => none
@[simp] theorem gInS_str (x z : Str) : gInS (.str x) (.str z) = (sign1 x).map fun c => .bl (decide (c ∈ z.cps.toList)) := rfl
@[simp] theorem gNotInS_str (x z : Str) : gNotInS (.str x) (.str z) = (sign1 x).map fun c => .bl (!decide (c ∈ z.cps.toList)) := rfl
theorem op_inS {X : Cx} : OpR X (compareOp .In) (fun x y H Q => ∃ (c : Nat) (z : Str), x = .str ⟨#[c]⟩ ∧ y = .str z ∧ Q (.bl (decide (c ∈ z.cps.toList))) H) := op_in_sign
theorem op_notInS {X : Cx} : OpR X (compareOp .NotIn) (fun x y H Q => ∃ (c : Nat) (z : Str), x = .str ⟨#[c]⟩ ∧ y = .str z ∧ Q (.bl (!decide (c ∈ z.cps.toList))) H) := op_notIn_sign
theorem d_inS {K : PySem.W.Frag} : Does2 K (fun x y H Q => ∃ (c : Nat) (z : Str), x = .str ⟨#[c]⟩ ∧ y = .str z ∧ Q (.bl (decide (c ∈ z.cps.toList))) H) gInS := by
  intro H x y d1 d2 d Q r1 r2 e q
  cases r1 with
  | str x =>
    cases r2 with
    | str z =>
      rw [gInS_str] at e
      cases es : sign1 x with
      | none => rw [es] at e; cases e
      | some c =>
        rw [es] at e
        cases e
        exact ⟨c, z, by rw [sign1_eq es], rfl, q _ fun _ => .bl _⟩
    | _ => cases e
  | _ => cases e
theorem d_notInS {K : PySem.W.Frag} : Does2 K (fun x y H Q => ∃ (c : Nat) (z : Str), x = .str ⟨#[c]⟩ ∧ y = .str z ∧ Q (.bl (!decide (c ∈ z.cps.toList))) H) gNotInS := by
  intro H x y d1 d2 d Q r1 r2 e q
  cases r1 with
  | str x =>
    cases r2 with
    | str z =>
      rw [gNotInS_str] at e
      cases es : sign1 x with
      | none => rw [es] at e; cases e
      | some c =>
        rw [es] at e
        cases e
        exact ⟨c, z, by rw [sign1_eq es], rfl, q _ fun _ => .bl _⟩
    | _ => cases e
  | _ => cases e
/-! ### sum, max, min, str(n), int(..) -/
def gSum : List D → Option D
  | [.lst ds] => (asInts ds).map fun ns => .int ns.sum
  | _ => none
@[simp] theorem gSum_lst (ds : List D) : gSum [.lst ds] = (asInts ds).map fun ns => .int ns.sum := rfl
def gMax : List D → Option D
  | [.int i, .int j] => some (.int (if j > i then j else i))
  | [.lst ds] => (asInts ds).bind fun ns => ns.max?.map .int
  | _ => none
def gMin : List D → Option D
  | [.int i, .int j] => some (.int (if j < i then j else i))
  | [.lst ds] => (asInts ds).bind fun ns => ns.min?.map .int
  | _ => none
@[simp] theorem gMax_int (i j : Int) : gMax [.int i, .int j] = some (.int (if j > i then j else i)) := rfl
@[simp] theorem gMin_int (i j : Int) : gMin [.int i, .int j] = some (.int (if j < i then j else i)) := rfl
@[simp] theorem gMax_lst (ds : List D) : gMax [.lst ds] = (asInts ds).bind fun ns => ns.max?.map .int := rfl
@[simp] theorem gMin_lst (ds : List D) : gMin [.lst ds] = (asInts ds).bind fun ns => ns.min?.map .int := rfl
theorem reps_ints_of {K : PySem.W.Frag} {H : Hp} : ∀ {vs : List V} {ns : List Int}, Reps true K H vs (ns.map D.int) → vs = ns.map V.int
  | _, [], .nil => rfl
  | _, n :: ns, .cons h r => by
    cases h
    rw [reps_ints_of r]
    rfl
section
variable {K : PySem.W.Frag} {X : Cx}
theorem d_sum : DoesN K (rSum K) gSum := by
  intro H vs ds d Q r e q
  unfold gSum at e
  split at e
  · rename_i ds
    obtain ⟨v, rfl, h⟩ := reps1 r
    obtain ⟨a, us, rfl, hp, hr⟩ := h.sq
    cases ei : asInts ds with
    | none => rw [ei] at e; cases e
    | some ns =>
      rw [ei] at e
      cases e
      rw [asInts_eq ei] at hr
      have := reps_ints_of hr
      subst this
      exact ⟨a, ns, rfl, hp, q _ fun _ => .int _⟩
  · cases e
def rMaxA (K : PySem.W.Frag) : List V → Hp → VK → Prop := fun xs H Q => (∃ i j, xs = [.int i, .int j] ∧ Q (.int (if j > i then j else i)) H) ∨ rMax K xs H Q
def rMinA (K : PySem.W.Frag) : List V → Hp → VK → Prop := fun xs H Q => (∃ i j, xs = [.int i, .int j] ∧ Q (.int (if j < i then j else i)) H) ∨ rMin K xs H Q
theorem call_maxA (hc : X.calm = true) : CallR X (.builtin "max") (rMaxA X.K) := (call_max2 hc).or (cr_max hc)
theorem call_minA (hc : X.calm = true) : CallR X (.builtin "min") (rMinA X.K) := (call_min2 hc).or (cr_min hc)
theorem d_max : DoesN K (rMaxA K) gMax := by
  intro H vs ds d Q r e q
  unfold gMax at e
  split at e
  · obtain ⟨v, v', rfl, h1, h2⟩ := reps2 r
    cases h1
    cases h2
    cases e
    exact .inl ⟨_, _, rfl, q _ fun _ => .int _⟩
  · rename_i ds
    obtain ⟨v, rfl, h⟩ := reps1 r
    obtain ⟨a, us, rfl, hp, hr⟩ := h.sq
    cases ei : asInts ds with
    | none => rw [ei] at e; cases e
    | some ns =>
      rw [ei] at e
      rw [asInts_eq ei] at hr
      have := reps_ints_of hr
      subst this
      have e : ns.max?.map D.int = some d := e
      cases em : ns.max? with
      | none => rw [em] at e; cases e
      | some m =>
        rw [em] at e
        cases e
        obtain ⟨h1, h2⟩ := List.max?_eq_some_iff.mp em
        refine .inr ⟨a, ns, rfl, hp, List.length_pos_of_mem h1, fun m' hm hle => ?_⟩
        rw [show m' = m from Int.le_antisymm (h2 m' hm) (hle m h1)]
        exact q _ fun _ => .int _
  · cases e
theorem d_min : DoesN K (rMinA K) gMin := by
  intro H vs ds d Q r e q
  unfold gMin at e
  split at e
  · obtain ⟨v, v', rfl, h1, h2⟩ := reps2 r
    cases h1
    cases h2
    cases e
    exact .inl ⟨_, _, rfl, q _ fun _ => .int _⟩
  · rename_i ds
    obtain ⟨v, rfl, h⟩ := reps1 r
    obtain ⟨a, us, rfl, hp, hr⟩ := h.sq
    cases ei : asInts ds with
    | none => rw [ei] at e; cases e
    | some ns =>
      rw [ei] at e
      rw [asInts_eq ei] at hr
      have := reps_ints_of hr
      subst this
      have e : ns.min?.map D.int = some d := e
      cases em : ns.min? with
      | none => rw [em] at e; cases e
      | some m =>
        rw [em] at e
        cases e
        obtain ⟨h1, h2⟩ := List.min?_eq_some_iff.mp em
        refine .inr ⟨a, ns, rfl, hp, List.length_pos_of_mem h1, fun m' hm hle => ?_⟩
        rw [show m' = m from Int.le_antisymm (hle m h1) (h2 m' hm)]
        exact q _ fun _ => .int _
  · cases e
def gStr : List D → Option D
  | [.int i] => if i.natAbs.log2 < 1920 then some (.str (Str.ofString (toString i))) else none
  | _ => none
@[simp] theorem gStr_int (i : Int) : gStr [.int i] = if i.natAbs.log2 < 1920 then some (.str (Str.ofString (toString i))) else none := rfl
theorem d_str : DoesN K (fun xs H Q => ∃ i, xs = [.int i] ∧ i.natAbs.log2 < 1920 ∧ Q (.str (Str.ofString (toString i))) H) gStr := by
  intro H vs ds d Q r e q
  unfold gStr at e
  split at e
  · obtain ⟨v, rfl, h⟩ := reps1 r
    cases h
    split at e
    · cases e
      exact ⟨_, rfl, by assumption, q _ fun _ => .str _⟩
    · cases e
  · cases e
end
end L2.VL
set_option Elab.async false
set_option linter.all false
set_option maxRecDepth 100000
set_option maxHeartbeats 4000000
namespace L2.VL
open PySem PySem.Spec PyProof.Rows

/-! ## comprehensions -/
def wipeG : List Md → List Nat → List Md
  | G, [] => G
  | G, i :: is => (wipeG G is).set i .un
section
variable {K : PySem.W.Frag} {B0 H0 B H : Hp}
theorem Slots.forget : ∀ {ms : List Md} {xs : List (Option V)} {ds : List D} (i : Nat) (y : Option V), Slots K H0 B H ms xs ds → Slots K H0 B H (ms.set i .un) (xs.set i y) ds
  | [], [], [], _, _, _ => trivial
  | _ :: _, _ :: _, _ :: _, 0, _, ⟨_, r⟩ => ⟨trivial, r⟩
  | _ :: _, _ :: _, _ :: _, i + 1, y, ⟨q, r⟩ => ⟨q, Slots.forget i y r⟩
theorem Sta.wipe {e : List D} : ∀ {is : List Nat} {G : List Md} {sg : St}, Sta K G B0 H0 sg e B H → Sta K (wipeG G is) B0 H0 (L2.wipe sg is) e B H
  | [], _, _, S => S
  | i :: is, G, sg, S => by
    have S1 := Sta.wipe (is := is) S
    refine ⟨S1.ext, S1.sl.forget i none, fun a b p g1 g2 t1 t2 => ?_⟩
    have g1 : ((wipeG G is).set i .un)[a]? = some .ow := g1
    have g2 : ((wipeG G is).set i .un)[b]? = some .ow := g2
    have t1 : ((L2.wipe sg is).set i none)[a]? = some (some (.ref p)) := t1
    have t2 : ((L2.wipe sg is).set i none)[b]? = some (some (.ref p)) := t2
    rcases get_set g1 with ⟨_, z⟩ | g1
    · cases z
    · rcases get_set g2 with ⟨_, z⟩ | g2
      · cases z
      · rcases get_set t1 with ⟨_, z⟩ | t1
        · cases z
        · rcases get_set t2 with ⟨_, z⟩ | t2
          · cases z
          · exact S1.dis a b p g1 g2 t1 t2
end
theorem wipe_get (sg : St) : ∀ (is : List Nat) (j : Nat), (L2.wipe sg is)[j]? = if j ∈ is ∧ j < sg.length then some none else sg[j]?
  | [], j => by simp [L2.wipe]
  | i :: is, j => by
    show ((L2.wipe sg is).set i none)[j]? = _
    rw [List.getElem?_set]
    by_cases e : i = j
    · subst e
      rw [if_pos rfl, wipe_length]
      by_cases h : i < sg.length
      · simp [h]
      · simp [h]
    · rw [if_neg e, wipe_get sg is j]
      have : j ≠ i := fun z => e z.symm
      simp [this]
theorem wipe_ag {is vs : List Nat} {sg sg1 : St} (a : Ag is (L2.wipe sg vs) sg1) (h : ∀ i ∈ is, i ∈ vs) : L2.wipe sg1 vs = L2.wipe sg vs := by
  apply List.ext_getElem?
  intro j
  have hl : sg1.length = sg.length := by rw [a.1, wipe_length]
  rw [wipe_get sg1 vs j, wipe_get sg vs j, hl]
  by_cases hj : j ∈ vs ∧ j < sg.length
  · rw [if_pos hj, if_pos hj]
  · rw [if_neg hj, if_neg hj]
    by_cases hv : j ∈ vs
    · have : ¬ j < sg.length := fun z => hj ⟨hv, z⟩
      rw [List.getElem?_eq_none (by omega), List.getElem?_eq_none (by omega)]
    · rw [a.2 j (fun z => hv (h j z)), wipe_get sg vs j, if_neg (fun z => hv z.1)]
/-- nothing may be raised here -/
def noX {α : Type} : R α → R α
  | .ex _ => .bad
  | r => r
@[simp] theorem noX_ok {α : Type} (a : α) : noX (R.ok a) = .ok a := rfl
@[simp] theorem noX_ex {α : Type} (c : Str) : noX (R.ex c : R α) = .bad := rfl
@[simp] theorem noX_bad {α : Type} : noX (R.bad : R α) = .bad := rfl
abbrev W0 : WX := fun _ _ _ _ => False
def compL (t : D → List D → Option (List D)) (c : List D → R Bool) (g : List D → R D) (e : List D) : List D → R (List D)
  | [] => .ok []
  | d :: ds => (ofO (t d e)).bind fun e1 => (noX (c e1)).bind fun b => if b then (noX (g e1)).bind fun y => (compL t c g e ds).bind fun ys => .ok (y :: ys) else compL t c g e ds
def compP (i j : Nat) (c : List D → R Bool) (g : List D → R D) (e : List D) : List (D × D) → R (List D)
  | [] => .ok []
  | p :: ps => (noX (c ((e.set i p.1).set j p.2))).bind fun b => if b then (noX (g ((e.set i p.1).set j p.2))).bind fun y => (compP i j c g e ps).bind fun ys => .ok (y :: ys) else compP i j c g e ps
def fitL (ys : List D) : R D := if ys.length ≤ sizeLine then .ok (.lst ys) else .bad
@[simp] theorem fitL_eq (ys : List D) : fitL ys = if ys.length ≤ sizeLine then .ok (.lst ys) else .bad := rfl
@[simp] def eComp (it : List D → R (List D)) (t : D → List D → Option (List D)) (c : List D → R Bool) (g : List D → R D) (e : List D) : R D := (it e).bind fun ds => (compL t c g e ds).bind fitL
@[simp] def eCompP (it : List D → R (List (D × D))) (i j : Nat) (c : List D → R Bool) (g : List D → R D) (e : List D) : R D := (it e).bind fun ds => (compP i j c g e ds).bind fitL
@[simp] def tTrue (_ : List D) : R Bool := .ok true
theorem vts_nil {X : Cx} {G : List Md} {W : WX} : PTs X [] (vT X.K X.mg G W tTrue) := ⟨fun pins s sg H Q I h => pts_nil.run pins s sg H Q I (by
  obtain ⟨B0, H0, B, e, S, k⟩ := h
  exact k B H (.refl S.ext.s))⟩
theorem vts_one {X : Cx} {G : List Md} {W : WX} {a : Expr} {c : List D → R Bool} (h : PT X a (vT X.K X.mg G W c)) : PTs X [a] (vT X.K X.mg G W c) := pts_one h
theorem compL_ex {t : D → List D → Option (List D)} {c : List D → R Bool} {g : List D → R D} {e : List D} {n : Str} : ∀ {ds : List D}, compL t c g e ds = .ex n → False
  | [], h => by cases h
  | d :: ds, h => by
    unfold compL at h
    cases et : t d e with
    | none => rw [et] at h; cases h
    | some e1 =>
      rw [et, ofO_some, R.bind_ok] at h
      cases ec : c e1 with
      | bad => rw [ec] at h; cases h
      | ex _ => rw [ec] at h; cases h
      | ok b =>
        rw [ec, noX_ok, R.bind_ok] at h
        cases b with
        | false => exact compL_ex h
        | true =>
          rw [if_pos rfl] at h
          cases eg : g e1 with
          | bad => rw [eg] at h; cases h
          | ex _ => rw [eg] at h; cases h
          | ok y =>
            rw [eg, noX_ok, R.bind_ok] at h
            cases er : compL t c g e ds with
            | bad => rw [er] at h; cases h
            | ex _ => exact compL_ex er
            | ok ys => rw [er] at h; cases h
theorem compP_ex {i j : Nat} {c : List D → R Bool} {g : List D → R D} {e : List D} {n : Str} : ∀ {ds : List (D × D)}, compP i j c g e ds = .ex n → False
  | [], h => by cases h
  | d :: ds, h => by
    unfold compP at h
    cases ec : c ((e.set i d.1).set j d.2) with
    | bad => rw [ec] at h; cases h
    | ex _ => rw [ec] at h; cases h
    | ok b =>
      rw [ec, noX_ok, R.bind_ok] at h
      cases b with
      | false => exact compP_ex h
      | true =>
        rw [if_pos rfl] at h
        cases eg : g ((e.set i d.1).set j d.2) with
        | bad => rw [eg] at h; cases h
        | ex _ => rw [eg] at h; cases h
        | ok y =>
          rw [eg, noX_ok, R.bind_ok] at h
          cases er : compP i j c g e ds with
          | bad => rw [er] at h; cases h
          | ex _ => exact compP_ex er
          | ok ys => rw [er] at h; cases h
theorem Ext.mutH {B H B' H' : Hp} {L : Addr} {o : HO} (x : Ext B H B' H') (h : H L = none) (hb : B' L = none) : Ext B H B' (upd H' L o) := ⟨x.b, same_updH x.h h, same_updH x.s hb, x.n⟩
section
variable {K : PySem.W.Frag} {mg : Str → Option Value} {G G1 : List Md} {W : WX} {m : Pm} {it : List D → R (List D)} {t : D → List D → Option (List D)} {c : List D → R Bool} {g : List D → R D} {is vs : List Nat}
theorem lc_of (hsub : ∀ i ∈ is, i ∈ vs) (sg : St) (H : Hp) (Q : VK) (h : vE K mg G W .fr (eComp it t c g) sg H Q) :
    tLc (vI K mg G W m it) (vG K m is (wipeG G vs) G1 t) (vT K mg G1 W0 c) (vE K mg G1 W0 .im g) vs sg H Q := by
  obtain ⟨B0, H0, B, e, S, k⟩ := h
  refine ⟨B0, H0, B, e, S, ?_⟩
  unfold eComp at k
  cases ei : it e with
  | bad => rw [ei] at k; exact k.elim
  | ex n => rw [ei] at k; exact k
  | ok ds =>
    rw [ei, R.bind_ok] at k
    intro B1 H1 J x1 w L hL
    obtain ⟨Gd, Y, wk, hgd, hy⟩ := w.ex
    cases ec : compL t c g e ds with
    | bad => rw [ec] at k; exact k.elim
    | ex n => exact (compL_ex ec).elim
    | ok ys =>
      rw [ec, R.bind_ok, fitL_eq] at k
      by_cases hz : ys.length ≤ sizeLine
      · rw [if_pos hz] at k
        have S1 := S.later x1
        have S1w : Sta K (wipeG G vs) B0 H0 (L2.wipe sg vs) e B1 H1 := Sta.wipe S1
        have hLb : B1 L = none := x1.s.free hL
        refine lc_it wk (fun i H' => ∃ B' acc done rest, Ext B1 H1 B' H' ∧ B' L = none ∧ H' L = some (.lst acc) ∧ Reps false K B' acc done ∧ compL t c g e (ds.drop i) = .ok rest ∧ done ++ rest = ys)
          ⟨B1, [], [], ys, .newH x1.s hL, hLb, upd_same, .nil, by rw [List.drop_zero]; exact ec, rfl⟩ (fun i H' _ hh => ?_) (fun i x H' H'' hi hh y => ?_) (fun H' hh => ?_)
        · obtain ⟨B', acc, done, rest, xx, _⟩ := hh
          exact hgd B' H' xx.b ((S1.ext.h).trans xx.h) xx.s
        · obtain ⟨B', acc, done, rest, xx, hbL, hhL, hr, er, ed⟩ := hh
          have hd : ds[i]? = some ds[i] := List.getElem?_eq_getElem hi
          obtain ⟨rfl, rp⟩ := hy i H' x H'' ds[i] B' y hd xx.b (S1.ext.h.trans xx.h) xx.s
          rw [List.drop_eq_getElem_cons hi] at er
          unfold compL at er
          have S2 := S1w.later xx
          refine ⟨B0, H0, B', e, ds[i], S2, rp, ?_⟩
          cases et : t ds[i] e with
          | none => rw [et] at er; cases er
          | some e1 =>
            rw [et, ofO_some, R.bind_ok] at er
            intro sg1 S3 ag
            refine ⟨wipe_ag ag hsub, B0, H0, B', e1, S3, ?_⟩
            cases eb : c e1 with
            | bad => rw [eb] at er; cases er
            | ex _ => rw [eb] at er; cases er
            | ok b =>
              rw [eb, noX_ok, R.bind_ok] at er
              intro B4 H4 x4
              cases b with
              | false =>
                rw [if_neg (by decide)]
                exact ⟨B4, acc, done, rest, xx.trans x4, (x4.n L (by rw [hhL]; exact fun z => by cases z)).trans hbL, x4.h _ _ hhL, hr.mono x4.b, er, ed⟩
              | true =>
                rw [if_pos rfl] at er ⊢
                refine ⟨B0, H0, B4, e1, S3.later x4, ?_⟩
                cases eg : g e1 with
                | bad => rw [eg] at er; cases er
                | ex _ => rw [eg] at er; cases er
                | ok yv =>
                  rw [eg, noX_ok, R.bind_ok] at er
                  cases ers : compL t c g e (ds.drop (i + 1)) with
                  | bad => rw [ers] at er; cases er
                  | ex _ => rw [ers] at er; cases er
                  | ok ys' =>
                    rw [ers] at er
                    cases er
                    intro B5 H5 v x5 rv
                    have h4L : H4 L = some (.lst acc) := x4.h _ _ hhL
                    have b4L : B4 L = none := (x4.n L (by rw [hhL]; exact fun z => by cases z)).trans hbL
                    have b5L : B5 L = none := (x5.n L (by rw [h4L]; exact fun z => by cases z)).trans b4L
                    refine ⟨acc, x5.h _ _ h4L, ?_, B5, acc ++ [v], done ++ [yv], ys', ((xx.trans x4).trans x5).mutH hL b5L, b5L, upd_same, (hr.mono (x4.b.trans x5.b)).append (.cons rv .nil), rfl, ?_⟩
                    · rw [hr.length]
                      rw [← ed, List.length_append, List.length_cons] at hz
                      omega
                    · rw [List.append_assoc]
                      exact ed
        · obtain ⟨B', acc, done, rest, xx, hbL, hhL, hr, er, ed⟩ := hh
          rw [List.drop_length] at er
          cases er
          rw [List.append_nil] at ed
          subst ed
          exact k B' H' _ (x1.trans xx) ⟨L, rfl, x1.h.free hL, hbL, acc, hhL, hr⟩
      · rw [if_neg hz] at k; exact k.elim
theorem lc_ofP {itP : List D → R (List (D × D))} {m1 m2 : Pm} {a b : Nat} (ha : a ∈ vs) (hb : b ∈ vs) (hG1 : G1 = ((wipeG G vs).set a m1.md).set b m2.md) (sg : St) (H : Hp) (Q : VK) (h : vE K mg G W .fr (eCompP itP a b c g) sg H Q) :
    tLc (vI2 K mg G W m1 m2 itP) (gTup K 2 (gCons (gName a) (gCons (gName b) gNil))) (vT K mg G1 W0 c) (vE K mg G1 W0 .im g) vs sg H Q := by
  obtain ⟨B0, H0, B, e, S, k⟩ := h
  refine ⟨B0, H0, B, e, S, ?_⟩
  unfold eCompP at k
  cases ei : itP e with
  | bad => rw [ei] at k; exact k.elim
  | ex n => rw [ei] at k; exact k
  | ok ds =>
    rw [ei, R.bind_ok] at k
    intro B1 H1 J x1 w L hL
    obtain ⟨Gd, Y, wk, hgd, hy⟩ := w.ex
    cases ec : compP a b c g e ds with
    | bad => rw [ec] at k; exact k.elim
    | ex n => exact (compP_ex ec).elim
    | ok ys =>
      rw [ec, R.bind_ok, fitL_eq] at k
      by_cases hz : ys.length ≤ sizeLine
      · rw [if_pos hz] at k
        have S1 := S.later x1
        have S1w : Sta K (wipeG G vs) B0 H0 (L2.wipe sg vs) e B1 H1 := Sta.wipe S1
        have hLb : B1 L = none := x1.s.free hL
        refine lc_it wk (fun i H' => ∃ B' acc done rest, Ext B1 H1 B' H' ∧ B' L = none ∧ H' L = some (.lst acc) ∧ Reps false K B' acc done ∧ compP a b c g e (ds.drop i) = .ok rest ∧ done ++ rest = ys)
          ⟨B1, [], [], ys, .newH x1.s hL, hLb, upd_same, .nil, by rw [List.drop_zero]; exact ec, rfl⟩ (fun i H' _ hh => ?_) (fun i x H' H'' hi hh y => ?_) (fun H' hh => ?_)
        · obtain ⟨B', acc, done, rest, xx, _⟩ := hh
          exact hgd B' H' xx.b ((S1.ext.h).trans xx.h) xx.s
        · obtain ⟨B', acc, done, rest, xx0, hbL, hhL0, hr, er, ed⟩ := hh
          have hd : ds[i]? = some (ds[i].1, ds[i].2) := List.getElem?_eq_getElem hi
          obtain ⟨T, v1, v2, rfl, hT, rfl, q1, q2⟩ := hy i H' x H'' _ _ B' y hd xx0.b (S1.ext.h.trans xx0.h) xx0.s
          have xx : Ext B1 H1 B' (upd H' T (.tup [v1, v2])) := xx0.trans (.newH xx0.s hT)
          have hhL : (upd H' T (.tup [v1, v2])) L = some (.lst acc) := same_upd hT _ _ hhL0
          rw [List.drop_eq_getElem_cons hi] at er
          unfold compP at er
          have S2 := S1w.later xx
          have S3 := (S2.set a (m := m1.md) q1.slot (fun z => (md_ne m1 z).elim)).set b (m := m2.md) q2.slot (fun z => (md_ne m2 z).elim)
          rw [← hG1] at S3
          have ag : Ag [a, b] (L2.wipe sg vs) (((L2.wipe sg vs).set a (some v1)).set b (some v2)) := ((Ag.refl _ _).set List.mem_cons_self _).set (List.mem_cons_of_mem _ List.mem_cons_self) _
          refine ⟨T, [v1, v2], rfl, .inl (.inl upd_same), rfl, v1, [v2], rfl, v2, [], rfl, rfl, wipe_ag ag (fun i hi => ?_), B0, H0, B', _, S3, ?_⟩
          · rcases List.mem_cons.mp hi with rfl | hi
            · exact ha
            · rcases List.mem_cons.mp hi with rfl | hi
              · exact hb
              · cases hi
          · cases eb : c ((e.set a ds[i].1).set b ds[i].2) with
            | bad => rw [eb] at er; cases er
            | ex _ => rw [eb] at er; cases er
            | ok bb =>
              rw [eb, noX_ok, R.bind_ok] at er
              intro B4 H4 x4
              cases bb with
              | false =>
                rw [if_neg (by decide)]
                exact ⟨B4, acc, done, rest, xx.trans x4, (x4.n L (by rw [hhL]; exact fun z => by cases z)).trans hbL, x4.h _ _ hhL, hr.mono x4.b, er, ed⟩
              | true =>
                rw [if_pos rfl] at er ⊢
                refine ⟨B0, H0, B4, _, S3.later x4, ?_⟩
                cases eg : g ((e.set a ds[i].1).set b ds[i].2) with
                | bad => rw [eg] at er; cases er
                | ex _ => rw [eg] at er; cases er
                | ok yv =>
                  rw [eg, noX_ok, R.bind_ok] at er
                  cases ers : compP a b c g e (ds.drop (i + 1)) with
                  | bad => rw [ers] at er; cases er
                  | ex _ => rw [ers] at er; cases er
                  | ok ys' =>
                    rw [ers] at er
                    cases er
                    intro B5 H5 v x5 rv
                    have h4L : H4 L = some (.lst acc) := x4.h _ _ hhL
                    have b4L : B4 L = none := (x4.n L (by rw [hhL]; exact fun z => by cases z)).trans hbL
                    have b5L : B5 L = none := (x5.n L (by rw [h4L]; exact fun z => by cases z)).trans b4L
                    refine ⟨acc, x5.h _ _ h4L, ?_, B5, acc ++ [v], done ++ [yv], ys', ((xx.trans x4).trans x5).mutH hL b5L, b5L, upd_same, (hr.mono (x4.b.trans x5.b)).append (.cons rv .nil), rfl, ?_⟩
                    · rw [hr.length]
                      rw [← ed, List.length_append, List.length_cons] at hz
                      omega
                    · rw [List.append_assoc]
                      exact ed
        · obtain ⟨B', acc, done, rest, xx, hbL, hhL, hr, er, ed⟩ := hh
          rw [List.drop_length] at er
          cases er
          rw [List.append_nil] at ed
          subst ed
          exact k B' H' _ (x1.trans xx) ⟨L, rfl, x1.h.free hL, hbL, acc, hhL, hr⟩
      · rw [if_neg hz] at k; exact k.elim
theorem fit_lst {r : R (List D)} {d : D} (h : r.bind fitL = .ok d) : ∃ ds, d = .lst ds := by
  cases r with
  | ok ys =>
    have h : fitL ys = .ok d := h
    rw [fitL_eq] at h
    split at h
    · cases h; exact ⟨_, rfl⟩
    · cases h
  | ex c => cases h
  | bad => cases h
theorem eComp_lst {it : List D → R (List D)} {t : D → List D → Option (List D)} {c : List D → R Bool} {g : List D → R D} (e : List D) (d : D) (h : eComp it t c g e = .ok d) : ∃ ds, d = .lst ds := by
  unfold eComp at h
  cases hi : it e with
  | ok ds => rw [hi] at h; exact fit_lst h
  | ex c => rw [hi] at h; cases h
  | bad => rw [hi] at h; cases h
theorem eCompP_lst {it : List D → R (List (D × D))} {i j : Nat} {c : List D → R Bool} {g : List D → R D} (e : List D) (d : D) (h : eCompP it i j c g e = .ok d) : ∃ ds, d = .lst ds := by
  unfold eCompP at h
  cases hi : it e with
  | ok ds => rw [hi] at h; exact fit_lst h
  | ex c => rw [hi] at h; cases h
  | bad => rw [hi] at h; cases h
theorem frz_of {f : List D → R D} (hf : ∀ e d, f e = .ok d → ∃ ds, d = .lst ds) (sg : St) (H : Hp) (Q : VK) (h : vE K mg G W .im f sg H Q) : vE K mg G W .fr f sg H Q := by
  obtain ⟨B0, H0, B, e, S, k⟩ := h
  refine ⟨B0, H0, B, e, S, ?_⟩
  cases ef : f e with
  | bad => rw [ef] at k; exact k
  | ex c => rw [ef] at k; exact k
  | ok d =>
    rw [ef] at k
    intro B' H' v x r
    obtain ⟨p, h1, h2, h3, h4⟩ := r
    subst h1
    obtain ⟨ds, rfl⟩ := hf e d ef
    obtain ⟨o, e1, s1, s2, r1⟩ := h4.freeze x.s h3
    refine k (upd B' p o) H' _ ⟨x.b.trans s2, x.h, s1, fun q hq => ?_⟩ r1
    rw [upd_ne (fun z => by subst z; exact hq h2)]
    exact x.n q hq
end
section
variable {X : Cx} {G G1 : List Md} {W : WX} {m m1 m2 : Pm} {it : List D → R (List D)} {itP : List D → R (List (D × D))} {t : D → List D → Option (List D)} {c : List D → R Bool} {g : List D → R D} {is : List Nat} {elt tg iter : Expr} {ifs : List Expr} {scope : Scope} {own : List (Str × Nat)} {pos spos py : Pos} {rm : Rm} {i a b : Nat} {y : Str}
theorem ve_comp (hc : X.calm = true) (hN : X.N.Nodup) (hi : PI X tg iter (vI X.K X.mg G W m it)) (ok : BlkOk X.N X.env.scope scope own)
    (hg : ∀ (s : Shared) (H : Hp) (C : Addr) (cl : List (Str × Addr)) (fp : List Addr), PG (X.blk s H scope (compEnvC scope cl C X.env) fp) tg (vG X.K m is (wipeG G (own.map (·.2))) G1 t))
    (ht : ∀ (s : Shared) (H : Hp) (C : Addr) (cl : List (Str × Addr)) (fp : List Addr), PTs (X.blk s H scope (compEnvC scope cl C X.env) fp) ifs (vT X.K X.mg G1 W0 c))
    (he : ∀ (s : Shared) (H : Hp) (C : Addr) (cl : List (Str × Addr)) (fp : List Addr), PE (X.blk s H scope (compEnvC scope cl C X.env) fp) elt (vE X.K X.mg G1 W0 .im g))
    (hsub : ∀ i ∈ is, i ∈ own.map (·.2) := by decide) (hs : ∀ x, foldedSetIterable iter X.env x = pure x := by intro _; rfl) :
    PE X (.ListComp elt [⟨tg, iter, ifs, 0⟩] scope pos) (vE X.K X.mg G W .fr (eComp it t c g)) := pe_weak (pe_lc hc hN hi ok hg ht he hs) (lc_of hsub)
theorem tgt_pair {Y : Cx} (hc : Y.calm = true) (hN : Y.N.Nodup) {x z : Str} {px pz pt : Pos} {kt : Nat} (hix : Y.N[a]? = some x := by rfl) (hjx : Y.N[b]? = some z := by rfl)
    (hlx : Loc Y.env.scope x := by first | exact Or.inl rfl | exact Or.inr rfl) (hly : Loc Y.env.scope z := by first | exact Or.inl rfl | exact Or.inr rfl) (hfx : Y.fn x = true ∨ Y.env.scope.names.lookup x = some .local := by first | exact .inl rfl | exact .inr rfl) (hfy : Y.fn z = true ∨ Y.env.scope.names.lookup z = some .local := by first | exact .inl rfl | exact .inr rfl)
    (h1 : (assignEach [.Name x px, .Name z pz] Y.env).map (·.2) = assign (.Name x px) Y.env :: (assignEach [.Name z pz] Y.env).map (·.2) := by rfl) (h2 : (assignEach [.Name z pz] Y.env).map (·.2) = assign (.Name z pz) Y.env :: (assignEach [] Y.env).map (·.2) := by rfl)
    (hn : (assignEach [.Name x px, .Name z pz] Y.env).length = 2 := by rfl) (hst : (assignEach [.Name x px, .Name z pz] Y.env).findIdx? (·.1) = none := by rfl) :
    PG Y (.Tuple [.Name x px, .Name z pz] kt pt) (gTup Y.K 2 (gCons (gName a) (gCons (gName b) gNil))) :=
  pg_tup hc (pgs_cons (pg_name hN hix hlx hfx) (pgs_cons (pg_name hN hjx hly hfy) pgs_nil h2) h1) hn hst
theorem ve_compP (hc : X.calm = true) (hN : X.N.Nodup) (hi : PI X tg iter (vI2 X.K X.mg G W m1 m2 itP)) (ok : BlkOk X.N X.env.scope scope own)
    (hg : ∀ (s : Shared) (H : Hp) (C : Addr) (cl : List (Str × Addr)) (fp : List Addr), PG (X.blk s H scope (compEnvC scope cl C X.env) fp) tg (gTup X.K 2 (gCons (gName a) (gCons (gName b) gNil))))
    (ht : ∀ (s : Shared) (H : Hp) (C : Addr) (cl : List (Str × Addr)) (fp : List Addr), PTs (X.blk s H scope (compEnvC scope cl C X.env) fp) ifs (vT X.K X.mg G1 W0 c))
    (he : ∀ (s : Shared) (H : Hp) (C : Addr) (cl : List (Str × Addr)) (fp : List Addr), PE (X.blk s H scope (compEnvC scope cl C X.env) fp) elt (vE X.K X.mg G1 W0 .im g))
    (ha : a ∈ own.map (·.2) := by decide) (hb : b ∈ own.map (·.2) := by decide) (hG1 : G1 = ((wipeG G (own.map (·.2))).set a m1.md).set b m2.md := by rfl) (hs : ∀ x, foldedSetIterable iter X.env x = pure x := by intro _; rfl) :
    PE X (.ListComp elt [⟨tg, iter, ifs, 0⟩] scope pos) (vE X.K X.mg G W .fr (eCompP itP a b c g)) := pe_weak (pe_lc hc hN hi ok hg ht he hs) (lc_ofP ha hb hG1)
/-- name = [..] on one row, the name a local -/
theorem vs_compOw (hc : X.calm = true) (hN : X.N.Nodup) (hi : PI X tg iter (vI X.K X.mg G W m it)) (ok : BlkOk X.N X.env.scope scope own)
    (hg : ∀ (s : Shared) (H : Hp) (C : Addr) (cl : List (Str × Addr)) (fp : List Addr), PG (X.blk s H scope (compEnvC scope cl C X.env) fp) tg (vG X.K m is (wipeG G (own.map (·.2))) G1 t))
    (ht : ∀ (s : Shared) (H : Hp) (C : Addr) (cl : List (Str × Addr)) (fp : List Addr), PTs (X.blk s H scope (compEnvC scope cl C X.env) fp) ifs (vT X.K X.mg G1 W0 c))
    (he : ∀ (s : Shared) (H : Hp) (C : Addr) (cl : List (Str × Addr)) (fp : List Addr), PE (X.blk s H scope (compEnvC scope cl C X.env) fp) elt (vE X.K X.mg G1 W0 .im g))
    (hy : X.N[i]? = some y := by rfl) (hyl : X.env.scope.names.lookup y = some .local := by rfl) (hsw : swapsWith (.ListComp elt [⟨tg, iter, ifs, 0⟩] scope pos) (some (.Name y py)) spos.line X.env = pure true := by exact sw_true rfl rfl rfl (by decide +kernel))
    (hsub : ∀ i ∈ is, i ∈ own.map (·.2) := by decide) (hs : ∀ x, foldedSetIterable iter X.env x = pure x := by intro _; rfl) :
    PS X (.Assign [.Name y py] (.ListComp elt [⟨tg, iter, ifs, 0⟩] scope pos) spos) (vS X.K X.mg G (G.set i .ow) W rm (sAsg i (eComp it t c g))) :=
  ps_weak (ps_setLc hc hN hy hyl hsw hi ok hg ht he hs) fun Dn sg H h => lc_of hsub sg H _ (asg_ow Dn sg H h)
theorem vs_compIm (hc : X.calm = true) (hN : X.N.Nodup) (hi : PI X tg iter (vI X.K X.mg G W m it)) (ok : BlkOk X.N X.env.scope scope own)
    (hg : ∀ (s : Shared) (H : Hp) (C : Addr) (cl : List (Str × Addr)) (fp : List Addr), PG (X.blk s H scope (compEnvC scope cl C X.env) fp) tg (vG X.K m is (wipeG G (own.map (·.2))) G1 t))
    (ht : ∀ (s : Shared) (H : Hp) (C : Addr) (cl : List (Str × Addr)) (fp : List Addr), PTs (X.blk s H scope (compEnvC scope cl C X.env) fp) ifs (vT X.K X.mg G1 W0 c))
    (he : ∀ (s : Shared) (H : Hp) (C : Addr) (cl : List (Str × Addr)) (fp : List Addr), PE (X.blk s H scope (compEnvC scope cl C X.env) fp) elt (vE X.K X.mg G1 W0 .im g))
    (hy : X.N[i]? = some y := by rfl) (hyl : X.env.scope.names.lookup y = some .local := by rfl) (hsw : swapsWith (.ListComp elt [⟨tg, iter, ifs, 0⟩] scope pos) (some (.Name y py)) spos.line X.env = pure true := by exact sw_true rfl rfl rfl (by decide +kernel))
    (hsub : ∀ i ∈ is, i ∈ own.map (·.2) := by decide) (hs : ∀ x, foldedSetIterable iter X.env x = pure x := by intro _; rfl) :
    PS X (.Assign [.Name y py] (.ListComp elt [⟨tg, iter, ifs, 0⟩] scope pos) spos) (vS X.K X.mg G (G.set i .im) W rm (sAsg i (eComp it t c g))) :=
  ps_weak (ps_setLc hc hN hy hyl hsw hi ok hg ht he hs) fun Dn sg H h => lc_of hsub sg H _ (frz_of eComp_lst sg H _ (asg_im Dn sg H h))
theorem vs_compPOw (hc : X.calm = true) (hN : X.N.Nodup) (hi : PI X tg iter (vI2 X.K X.mg G W m1 m2 itP)) (ok : BlkOk X.N X.env.scope scope own)
    (hg : ∀ (s : Shared) (H : Hp) (C : Addr) (cl : List (Str × Addr)) (fp : List Addr), PG (X.blk s H scope (compEnvC scope cl C X.env) fp) tg (gTup X.K 2 (gCons (gName a) (gCons (gName b) gNil))))
    (ht : ∀ (s : Shared) (H : Hp) (C : Addr) (cl : List (Str × Addr)) (fp : List Addr), PTs (X.blk s H scope (compEnvC scope cl C X.env) fp) ifs (vT X.K X.mg G1 W0 c))
    (he : ∀ (s : Shared) (H : Hp) (C : Addr) (cl : List (Str × Addr)) (fp : List Addr), PE (X.blk s H scope (compEnvC scope cl C X.env) fp) elt (vE X.K X.mg G1 W0 .im g))
    (hy : X.N[i]? = some y := by rfl) (hyl : X.env.scope.names.lookup y = some .local := by rfl) (hsw : swapsWith (.ListComp elt [⟨tg, iter, ifs, 0⟩] scope pos) (some (.Name y py)) spos.line X.env = pure true := by exact sw_true rfl rfl rfl (by decide +kernel))
    (ha : a ∈ own.map (·.2) := by decide) (hb : b ∈ own.map (·.2) := by decide) (hG1 : G1 = ((wipeG G (own.map (·.2))).set a m1.md).set b m2.md := by rfl) (hs : ∀ x, foldedSetIterable iter X.env x = pure x := by intro _; rfl) :
    PS X (.Assign [.Name y py] (.ListComp elt [⟨tg, iter, ifs, 0⟩] scope pos) spos) (vS X.K X.mg G (G.set i .ow) W rm (sAsg i (eCompP itP a b c g))) :=
  ps_weak (ps_setLc hc hN hy hyl hsw hi ok hg ht he hs) fun Dn sg H h => lc_ofP ha hb hG1 sg H _ (asg_ow Dn sg H h)
theorem vs_compPIm (hc : X.calm = true) (hN : X.N.Nodup) (hi : PI X tg iter (vI2 X.K X.mg G W m1 m2 itP)) (ok : BlkOk X.N X.env.scope scope own)
    (hg : ∀ (s : Shared) (H : Hp) (C : Addr) (cl : List (Str × Addr)) (fp : List Addr), PG (X.blk s H scope (compEnvC scope cl C X.env) fp) tg (gTup X.K 2 (gCons (gName a) (gCons (gName b) gNil))))
    (ht : ∀ (s : Shared) (H : Hp) (C : Addr) (cl : List (Str × Addr)) (fp : List Addr), PTs (X.blk s H scope (compEnvC scope cl C X.env) fp) ifs (vT X.K X.mg G1 W0 c))
    (he : ∀ (s : Shared) (H : Hp) (C : Addr) (cl : List (Str × Addr)) (fp : List Addr), PE (X.blk s H scope (compEnvC scope cl C X.env) fp) elt (vE X.K X.mg G1 W0 .im g))
    (hy : X.N[i]? = some y := by rfl) (hyl : X.env.scope.names.lookup y = some .local := by rfl) (hsw : swapsWith (.ListComp elt [⟨tg, iter, ifs, 0⟩] scope pos) (some (.Name y py)) spos.line X.env = pure true := by exact sw_true rfl rfl rfl (by decide +kernel))
    (ha : a ∈ own.map (·.2) := by decide) (hb : b ∈ own.map (·.2) := by decide) (hG1 : G1 = ((wipeG G (own.map (·.2))).set a m1.md).set b m2.md := by rfl) (hs : ∀ x, foldedSetIterable iter X.env x = pure x := by intro _; rfl) :
    PS X (.Assign [.Name y py] (.ListComp elt [⟨tg, iter, ifs, 0⟩] scope pos) spos) (vS X.K X.mg G (G.set i .im) W rm (sAsg i (eCompP itP a b c g))) :=
  ps_weak (ps_setLc hc hN hy hyl hsw hi ok hg ht he hs) fun Dn sg H h => lc_ofP ha hb hG1 sg H _ (frz_of eCompP_lst sg H _ (asg_im Dn sg H h))
end
end L2.VL
set_option Elab.async false
set_option linter.all false
set_option maxRecDepth 100000
set_option maxHeartbeats 4000000
namespace L2.VL
open PySem PySem.Spec PyProof.Rows
/-! ## plain data: equal just where alike -/
def plD : Nat → D → Bool
  | _, .non => true
  | _, .int _ => true
  | _, .str x => PyData.strOk x
  | n + 1, .tup ds => ds.all (plD n)
  | n + 1, .lst ds => ds.all (plD n)
  | _, _ => false
@[simp] theorem plD_int (n : Nat) (i : Int) : plD n (.int i) = true := by cases n <;> rfl
@[simp] theorem plD_non (n : Nat) : plD n .non = true := by cases n <;> rfl
@[simp] theorem plD_str (n : Nat) (x : Str) : plD n (.str x) = PyData.strOk x := by cases n <;> rfl
@[simp] theorem plD_tup (n : Nat) (ds : List D) : plD (n + 1) (.tup ds) = ds.all (plD n) := rfl
@[simp] theorem plD_lst (n : Nat) (ds : List D) : plD (n + 1) (.lst ds) = ds.all (plD n) := rfl
theorem pl_lay : ∀ (n : Nat) (d : D), plD n d = true → d.py.canLay0 = true ∧ d.py.depth ≤ n
  | n, .non, _ => by simp [D.py, PyData.canLay0, PyData.depth]
  | n, .int _, _ => by simp [D.py, PyData.canLay0, PyData.depth]
  | n, .str x, h => by
    rw [plD_str] at h
    simp [D.py, PyData.canLay0, PyData.depth, h]
  | 0, .bl _, h => by cases h
  | n + 1, .bl _, h => by cases h
  | 0, .dic _, h => by cases h
  | n + 1, .dic _, h => by cases h
  | 0, .tup _, h => by cases h
  | 0, .lst _, h => by cases h
  | n + 1, .tup ds, h => by
    rw [plD_tup] at h
    have : ∀ ds : List D, ds.all (plD n) = true → PyData.canLayAll0 (D.pys ds) = true ∧ PyData.depthAll (D.pys ds) ≤ n := by
      intro ds
      induction ds with
      | nil => intro _; simp [D.pys, PyData.canLayAll0, PyData.depthAll]
      | cons d ds ih =>
        intro h
        rw [List.all_cons, Bool.and_eq_true] at h
        have h1 := pl_lay n d h.1
        have h2 := ih h.2
        simp only [D.pys, PyData.canLayAll0, PyData.depthAll, h1.1, h2.1, Bool.and_self, true_and]
        omega
    have h2 := this ds h
    simp only [D.py, PyData.canLay0, PyData.depth, h2.1, true_and]
    omega
  | n + 1, .lst ds, h => by
    rw [plD_lst] at h
    have : ∀ ds : List D, ds.all (plD n) = true → PyData.canLayAll0 (D.pys ds) = true ∧ PyData.depthAll (D.pys ds) ≤ n := by
      intro ds
      induction ds with
      | nil => intro _; simp [D.pys, PyData.canLayAll0, PyData.depthAll]
      | cons d ds ih =>
        intro h
        rw [List.all_cons, Bool.and_eq_true] at h
        have h1 := pl_lay n d h.1
        have h2 := ih h.2
        simp only [D.pys, PyData.canLayAll0, PyData.depthAll, h1.1, h2.1, Bool.and_self, true_and]
        omega
    have h2 := this ds h
    simp only [D.py, PyData.canLay0, PyData.depth, h2.1, true_and]
    omega
theorem pl_eqs (n : Nat) (ih : ∀ a b : D, plD n a = true → plD n b = true → (PyData.eqv a.py b.py = true ↔ a = b)) :
    ∀ as bs : List D, as.all (plD n) = true → bs.all (plD n) = true → (PyData.eqvAll (D.pys as) (D.pys bs) = true ↔ as = bs)
  | [], [], _, _ => by simp [D.pys, PyData.eqvAll]
  | [], _ :: _, _, _ => by simp [D.pys, PyData.eqvAll]
  | _ :: _, [], _, _ => by simp [D.pys, PyData.eqvAll]
  | a :: as, b :: bs, h1, h2 => by
    rw [List.all_cons, Bool.and_eq_true] at h1 h2
    simp only [D.pys, PyData.eqvAll, Bool.and_eq_true, List.cons.injEq]
    rw [ih a b h1.1 h2.1, pl_eqs n ih as bs h1.2 h2.2]
theorem pl_eq : ∀ (n : Nat) (a b : D), plD n a = true → plD n b = true → (PyData.eqv a.py b.py = true ↔ a = b) := by
  intro n
  induction n with
  | zero =>
    intro a b h1 h2
    cases a <;> cases b <;> first | (cases h1; done) | (cases h2; done) | simp [D.py, PyData.eqv]
  | succ n ih =>
    intro a b h1 h2
    cases a <;> cases b <;> first | (cases h1; done) | (cases h2; done) | simp [D.py, PyData.eqv] | skip
    · exact pl_eqs n ih _ _ h1 h2
    · exact pl_eqs n ih _ _ h1 h2
theorem eqF_py {a b : D} (h : scalD a b = true) : eqF a b = PyData.eqv a.py b.py := by
  cases a <;> cases b <;> first | (cases h; done) | simp [D.py, PyData.eqv, eqF] | skip
  all_goals (rw [Bool.eq_iff_iff]; simp)
theorem eqD_py {a b : D} {n m : Nat} (ha : plD n a = true) (hb : plD m b = true) (hn : n ≤ 64 := by decide) (hm : m ≤ 64 := by decide) : eqD a b = some (PyData.eqv a.py b.py) := by
  unfold eqD
  split
  · rename_i h
    rw [eqF_py h]
  · have h1 := pl_lay n a ha
    have h2 := pl_lay m b hb
    have s1 : SeqAt.shaped a.py = true := by
      unfold SeqAt.shaped
      rw [h1.1, decide_eq_true (Nat.le_trans h1.2 hn)]
      rfl
    have s2 : SeqAt.shaped b.py = true := by
      unfold SeqAt.shaped
      rw [h2.1, decide_eq_true (Nat.le_trans h2.2 hm)]
      rfl
    rw [s1, s2]
    rfl
theorem eqD_self {a : D} {n : Nat} (ha : plD n a = true) (hn : n ≤ 64 := by decide) : eqD a a = some true := by
  rw [eqD_py ha ha hn hn, (pl_eq n a a ha ha).mpr rfl]
theorem eqD_ne {a b : D} {n : Nat} (ha : plD n a = true) (hb : plD n b = true) (h : a ≠ b) (hn : n ≤ 64 := by decide) : eqD a b = some false := by
  rw [eqD_py ha hb hn hn]
  cases e : PyData.eqv a.py b.py with
  | false => rfl
  | true => exact (h ((pl_eq n a b ha hb).mp e)).elim
end L2.VL
set_option Elab.async false
set_option linter.all false
set_option maxRecDepth 100000
set_option maxHeartbeats 4000000
namespace L2.VL
open PySem PySem.Spec PyProof.Rows
/-! ## a < b < c -/
@[simp] def eChain (g g' : D → D → Option D) (fa fb fc : List D → R D) (e : List D) : R D := (fa e).bind fun x => (fb e).bind fun y => (ofO (g x y)).bind fun z => (asB z).bind fun k => if k then (fc e).bind fun w => ofO (g' y w) else .ok (.bl false)
section
variable {X : Cx} {G : List Md} {W : WX} {pos p tpos : Pos} {a b c tg : Expr} {fa fb fc f : List D → R D} {ma mb mc : Tg} {r r' : R2} {g g' : D → D → Option D} {m m1 m2 : Pm} {elts : List Expr} {kk : Nat}
theorem chain_of {K : PySem.W.Frag} {mg : Str → Option Value} (hd : Does2 K r g) (hd' : Does2 K r' g') (sg : St) (H : Hp) (Q : VK) (h : vE K mg G W .im (eChain g g' fa fb fc) sg H Q) :
    tChain r r' (vE K mg G W ma fa) (vE K mg G W mb fb) (vE K mg G W mc fc) sg H Q := by
  obtain ⟨B0, H0, B, e, S, k⟩ := h
  refine seq1 (P := KE K mg W sg H0 B H Q .im) S k (fun c k => k) (fun k => k) fun B1 H1 x d1 x1 S1 r1 k1 => ?_
  refine seq1 (P := KE K mg W sg H0 B H Q .im) S1 k1 (fun c k B' H' a y hm => k B' H' a (x1.trans y) hm) (fun k => k) fun B2 H2 y d2 x2 S2 r2 k2 => ?_
  cases eg : g d1 d2 with
  | none => rw [eg] at k2; exact k2.elim
  | some z =>
    rw [eg] at k2
    refine hd H2 x y d1 d2 z _ ((r1.later x2).all (x1.trans x2).s S2.ext.h) ((r2.earlier x1.h).all x2.s S2.ext.h) eg fun v hv => ?_
    have hv' := hv B2
    cases hv' with
    | bl b =>
      refine ⟨b, rfl, ?_⟩
      cases b with
      | false => exact k2 B2 H2 _ (x1.trans x2) (hv B2)
      | true =>
        refine seq1 (P := KE K mg W sg H0 B H Q .im) S2 k2 (fun c k B' H' a y hm => k B' H' a ((x1.trans x2).trans y) hm) (fun k => k) fun B3 H3 w d3 x3 S3 r3 k3 => ?_
        cases eg' : g' d2 d3 with
        | none => rw [eg'] at k3; exact k3.elim
        | some z =>
          rw [eg'] at k3
          exact hd' H3 y w d2 d3 z _ (((r2.earlier x1.h).later x3).all (x2.trans x3).s S3.ext.h) ((r3.earlier (x1.trans x2).h).all x3.s S3.ext.h) eg' fun v hv => k3 B3 H3 _ ((x1.trans x2).trans x3) (hv B3)
    | _ => exact k2.elim
theorem ve_chain {op op' : CmpOp} (ho : OpR X (compareOp op) r) (ho' : OpR X (compareOp op') r') (hd : Does2 X.K r g) (hd' : Does2 X.K r' g') (ha : PE X a (vE X.K X.mg G W ma fa)) (hb : PE X b (vE X.K X.mg G W mb fb)) (hc : PE X c (vE X.K X.mg G W mc fc))
    (hm : lastMarks [op, op'] [b, c] = false := by with_unfolding_all rfl) : PE X (.Compare a [op, op'] [b, c] pos) (vE X.K X.mg G W .im (eChain g g' fa fb fc)) :=
  pe_weak (pe_chain ho ho' ha hb hc hm) (chain_of hd hd')
theorem vt_chain {op op' : CmpOp} (ho : OpR X (compareOp op) r) (ho' : OpR X (compareOp op') r') (hd : Does2 X.K r g) (hd' : Does2 X.K r' g') (ha : PE X a (vE X.K X.mg G W ma fa)) (hb : PE X b (vE X.K X.mg G W mb fb)) (hc : PE X c (vE X.K X.mg G W mc fc))
    (hm : lastMarks [op, op'] [b, c] = false := by with_unfolding_all rfl) : PT X (.Compare a [op, op'] [b, c] pos) (vT X.K X.mg G W (tVal (eChain g g' fa fb fc))) := by
  refine pt_weak (pt_chain ho ho' ha hb hc hm) fun sg H Q h => ?_
  exact chain_of hd hd' sg H _ (tval_of sg H Q h)
/-! ## from the end -/
@[simp] def iRevL (f : List D → R D) (e : List D) : R (List D) := ((f e).bind lstOf).bind fun ds => .ok ds.reverse
@[simp] def iRevT (f : List D → R D) (e : List D) : R (List D) := ((f e).bind tupOf).bind fun ds => .ok ds.reverse
theorem rev_get {α : Type} {xs : List α} {i : Nat} {x : α} (h : xs.reverse[i]? = some x) : xs[xs.length - 1 - i]? = some x := by
  have hi : i < xs.reverse.length := (List.getElem?_eq_some_iff.mp h).1
  rw [List.getElem?_reverse (by simpa using hi)] at h
  exact h
theorem bind_bind {α β γ : Type} (r : R α) (f : α → R β) (g : β → R γ) : (r.bind f).bind g = r.bind fun x => (f x).bind g := by cases r <;> rfl
theorem vi_revL (hm : X.mg "reversed" = none) (h : PE X a (vE X.K X.mg G W (pmT m) f)) (hg : Gl X "reversed" := by rfl) (hs : starEach [a] X.env = (false, eval a X.env) :: starEach [] X.env := by rfl) :
    PI X tg (.Call (.Name "reversed" p) [a] [] pos) (vI X.K X.mg G W m (iRevL f)) := by
  refine pi_weak (RT.pi_revA hg hm h hs) fun sg H Rr ⟨B0, H0, B, e, S, k⟩ => ?_
  unfold iRevL at k
  rw [bind_bind] at k
  refine seqI S k fun B1 H1 x d x1 S1 r1 k1 => ?_
  cases d with
  | lst ds =>
    obtain ⟨p, vs, rfl, hl, hst, hit⟩ := r1.stay
    refine ⟨p, vs, rfl, .inl ⟨hst B1 H1 (Same.refl _) S1.ext.h x1.s, k1 B1 H1 _ x1 ⟨fun H => SqL X.K H p vs, fun i H x H' => H' = H ∧ vs[vs.length - 1 - i]? = some x, ?_, fun B2 H2 sb s0 sh => hst B2 H2 sb s0 sh, fun i H2 y H3 d B2 hy hd sb s0 sh => ?_⟩⟩⟩
    · rw [List.length_reverse, ← hl]
      exact walk_rev (xs := vs)
    · have hd' := rev_get hd
      rw [← hl] at hd'
      obtain ⟨z, hz, q⟩ := hit _ d B2 hd' sb
      obtain ⟨e1, e2⟩ := hy
      rw [hz] at e2
      cases e2
      exact ⟨e1, q⟩
  | _ => exact k1.elim
theorem walk_revT {K : PySem.W.Frag} {a : Addr} {xs : List V} : Walk (RT.ItvT K a xs.length) xs.length (fun H => SqT K H a xs) (fun i H x H' => H' = H ∧ xs[xs.length - 1 - i]? = some x) :=
  ⟨fun i _ hi q => ⟨hi, xs, xs[xs.length - 1 - i]'(by omega), q, by simp⟩, fun _ _ => Nat.le_refl _, fun i H x H' _ q y => ⟨y.1, y.2 xs q⟩⟩
theorem vi_revT (hm : X.mg "reversed" = none) (h : PE X a (vE X.K X.mg G W (pmT m) f)) (hg : Gl X "reversed" := by rfl) (hs : starEach [a] X.env = (false, eval a X.env) :: starEach [] X.env := by rfl) :
    PI X tg (.Call (.Name "reversed" p) [a] [] pos) (vI X.K X.mg G W m (iRevT f)) := by
  refine pi_weak (RT.pi_revA hg hm h hs) fun sg H Rr ⟨B0, H0, B, e, S, k⟩ => ?_
  unfold iRevT at k
  rw [bind_bind] at k
  refine seqI S k fun B1 H1 x d x1 S1 r1 k1 => ?_
  cases d with
  | tup ds =>
    obtain ⟨p, vs, rfl, hl, hst, hit⟩ := r1.stayT
    refine ⟨p, vs, rfl, .inr ⟨hst B1 H1 (Same.refl _) S1.ext.h x1.s, k1 B1 H1 _ x1 ⟨fun H => SqT X.K H p vs, fun i H x H' => H' = H ∧ vs[vs.length - 1 - i]? = some x, ?_, fun B2 H2 sb s0 sh => hst B2 H2 sb s0 sh, fun i H2 y H3 d B2 hy hd sb s0 sh => ?_⟩⟩⟩
    · rw [List.length_reverse, ← hl]
      exact walk_revT (xs := vs)
    · have hd' := rev_get hd
      rw [← hl] at hd'
      obtain ⟨z, hz, q⟩ := hit _ d B2 hd' sb
      obtain ⟨e1, e2⟩ := hy
      rw [hz] at e2
      cases e2
      exact ⟨e1, q⟩
  | _ => exact k1.elim
def inR2 (i : Int) : Prop := -(2 ^ 62) ≤ i ∧ i < 2 ^ 62
instance (i : Int) : Decidable (inR2 i) := inferInstanceAs (Decidable (_ ∧ _))
def rev1 : D → R (List D)
  | .int j => if inR2 j then .ok (rngOf 0 j).reverse else .bad
  | _ => .bad
@[simp] theorem rev1_int (j : Int) : rev1 (.int j) = if inR2 j then .ok (rngOf 0 j).reverse else .bad := rfl
@[simp] def iRevR1 (f : List D → R D) (e : List D) : R (List D) := (f e).bind rev1
theorem rngOf_get' {a b : Int} {i : Nat} (h : i < (b - a).toNat) : (rngOf a b)[i]? = some (.int (a + i)) := by
  cases e : (rngOf a b)[i]? with
  | none =>
    rw [List.getElem?_eq_none_iff, rngOf_len] at e
    omega
  | some d => rw [rngOf_get e]
theorem vi_revR1 {mt : Tg} (hm : X.mg "reversed" = none) (hm' : X.mg "range" = none) (h : PE X a (vE X.K X.mg G W mt f)) (hg : Gl X "reversed" := by rfl) (hg' : Gl X "range" := by rfl)
    (hs : starEach [.Call (.Name "range" p) [a] [] tpos] X.env = (false, eval (.Call (.Name "range" p) [a] [] tpos) X.env) :: starEach [] X.env := by rfl) (hs' : starEach [a] X.env = (false, eval a X.env) :: starEach [] X.env := by rfl) {p' : Pos} :
    PI X tg (.Call (.Name "reversed" p') [.Call (.Name "range" p) [a] [] tpos] [] pos) (vI X.K X.mg G W .im (iRevR1 f)) := by
  refine pi_weak (pi_revR hg hm (prg_1 hg' hm' h hs') hs) fun sg H Rr ⟨B0, H0, B, e, S, k⟩ => ?_
  refine seqI S k fun B1 H1 x d x1 S1 r1 k1 => ?_
  have q := r1.all x1.s S1.ext.h
  cases q with
  | int j =>
    rw [rev1_int] at k1
    by_cases hj : inR2 j
    · rw [if_pos hj] at k1
      refine ⟨j, rfl, by decide, by decide, hj.1, hj.2, k1 B1 H1 _ x1 ⟨fun _ => True, YFn fun i => .int (0 + ((j - 0).toNat : Nat) - 1 + (i : Nat) * -1), ?_, fun _ _ _ _ _ => trivial, fun i H2 y H3 d B2 hy hd sb s0 sh => ?_⟩⟩
      · rw [List.length_reverse, rngOf_len]
        exact walk_rangeC
      · have hi : i < (rngOf 0 j).length := by
          have := (List.getElem?_eq_some_iff.mp hd).1
          simpa using this
        have hd' := rev_get hd
        rw [rngOf_len] at hd' hi
        rw [rngOf_get' (by omega)] at hd'
        cases hd'
        obtain ⟨e1, e2⟩ := hy
        subst e2
        refine ⟨e1, RepP.flat fun B => ?_⟩
        have : 0 + (((j - 0).toNat : Nat) : Int) - 1 + (i : Nat) * -1 = 0 + (((j - 0).toNat - 1 - i : Nat) : Int) := by omega
        show Rep false X.K B (.int (0 + (((j - 0).toNat : Nat) : Int) - 1 + (i : Nat) * -1)) _
        rw [this]
        exact .int _
    · rw [if_neg hj] at k1; exact k1.elim
  | _ => exact k1.elim
theorem walk_zipT {K : PySem.W.Frag} {a b : Addr} {xs ys : List V} {n : Nat} (hn : n = min xs.length ys.length) : Walk (RZ.ItzT K a b) n (fun H => SqT K H a xs ∧ SqT K H b ys) (YPair (fun i => xs[i]?) (fun i => ys[i]?)) := by
  subst hn
  refine ⟨fun i _ hi q => ?_, fun _ q => ⟨xs, ys, q.1, q.2, by omega⟩, fun i H v H' _ q y => ?_⟩
  · have h1 : i < xs.length := by omega
    have h2 : i < ys.length := by omega
    exact ⟨xs, ys, xs[i], ys[i], q.1, q.2, by simp [h1], by simp [h2]⟩
  · obtain ⟨T, x, z, h1, h2, h3, h4, h5⟩ := y
    exact ⟨T, x, z, h1, h2, h3, h4 xs q.1, h5 ys q.2⟩
theorem vi_zipT (hm : X.mg "zip" = none) (ha : PE X a (vE X.K X.mg G W (pmT m1) fa)) (hb : PE X b (vE X.K X.mg G W (pmT m2) fb)) (hg : Gl X "zip" := by rfl)
    (hs : starEach [a, b] X.env = (false, eval a X.env) :: starEach [b] X.env := by rfl) (hs2 : starEach [b] X.env = [(false, eval b X.env)] := by rfl) :
    PI X (.Tuple elts kk tpos) (.Call (.Name "zip" p) [a, b] [] pos) (vI2 X.K X.mg G W m1 m2 (iZipT fa fb)) := by
  refine pi_weak (RZ.pi_zipA hg hm (pa_cons ha (pa_cons hb pa_nil hs2) hs) hs (by rw [hs2]; rfl)) fun sg H Rr ⟨B0, H0, B, e, S, k⟩ => ?_
  refine seqI S k fun B1 H1 x d x1 S1 r1 k1 => ?_
  refine seq1 (P := KI X.mg W sg B H (WalkP X.K m1 m2 H0) Rr) S1 k1 (fun c k B' H' a y hm => k B' H' a (x1.trans y) hm) (fun k => k) fun B2 H2 x' d' x2 S2 r2 k2 => ?_
  cases d with
  | tup ds =>
    cases d' with
    | tup es =>
      obtain ⟨q, vs, rfl, hl, hst, hit⟩ := (r1.later x2).stayT
      obtain ⟨q', vs', rfl, hl', hst', hit'⟩ := (r2.earlier x1.h).stayT
      refine ⟨q, q', vs, vs', rfl, .inr ⟨hst B2 H2 (Same.refl _) S2.ext.h x2.s, hst' B2 H2 (Same.refl _) S2.ext.h x2.s, k2 B2 H2 _ (x1.trans x2) ⟨fun H => SqT X.K H q vs ∧ SqT X.K H q' vs', YPair (fun i => vs[i]?) (fun i => vs'[i]?), ?_, fun B3 H3 sb s0 sh => ⟨hst B3 H3 sb s0 sh, hst' B3 H3 sb s0 sh⟩, fun i H3 y H4 d1 d2 B3 hy hd sb s0 sh => ?_⟩⟩⟩
      · exact walk_zipT (xs := vs) (ys := vs') (by rw [List.length_zip, hl, hl'])
      · obtain ⟨e1, e2⟩ := zip_get hd
        obtain ⟨T, y1, y2, h1, h2, h3, h4, h5⟩ := hy
        obtain ⟨z, hz, rz⟩ := hit i d1 B3 e1 sb
        obtain ⟨z', hz', rz'⟩ := hit' i d2 B3 e2 sb
        have h4 : vs[i]? = some y1 := h4
        have h5 : vs'[i]? = some y2 := h5
        rw [hz] at h4
        rw [hz'] at h5
        cases h4
        cases h5
        exact ⟨T, _, _, h1, h2, h3, rz, rz'⟩
    | _ => exact k2.elim
  | _ => exact k2.elim
end
end L2.VL
set_option Elab.async false
set_option linter.all false
set_option maxRecDepth 100000
set_option maxHeartbeats 4000000
namespace L2.VL
open PySem PySem.Spec PyProof.Rows
/-! ## plain facts of loops -/
theorem compL_all {t : D → List D → Option (List D)} {g : List D → R D} {e : List D} {Q : D → D → Prop} : ∀ {ds : List D}, (∀ d ∈ ds, ∃ e1 y, t d e = some e1 ∧ g e1 = .ok y ∧ Q d y) →
    ∃ ys, compL t tTrue g e ds = .ok ys ∧ ys.length = ds.length ∧ ∀ (i : Nat) d y, ds[i]? = some d → ys[i]? = some y → Q d y
  | [], _ => ⟨[], rfl, rfl, fun _ _ _ h => by simp at h⟩
  | d :: ds, h => by
    obtain ⟨e1, y, h1, h2, h3⟩ := h d (by simp)
    obtain ⟨ys, k1, k2, k3⟩ := compL_all (t := t) (g := g) (e := e) (ds := ds) fun d hd => h d (by simp [hd])
    refine ⟨y :: ys, ?_, by simp [k2], fun i d' y' hd hy => ?_⟩
    · rw [compL, h1]
      simp [h2, k1]
    · cases i with
      | zero =>
        simp at hd hy
        subst hd hy
        exact h3
      | succ i => exact k3 i d' y' (by simpa using hd) (by simpa using hy)
theorem compP_all {a b : Nat} {g : List D → R D} {e : List D} {Q : D × D → D → Prop} : ∀ {ps : List (D × D)}, (∀ p ∈ ps, ∃ y, g ((e.set a p.1).set b p.2) = .ok y ∧ Q p y) →
    ∃ ys, compP a b tTrue g e ps = .ok ys ∧ ys.length = ps.length ∧ ∀ (i : Nat) p y, ps[i]? = some p → ys[i]? = some y → Q p y
  | [], _ => ⟨[], rfl, rfl, fun _ _ _ h => by simp at h⟩
  | p :: ps, h => by
    obtain ⟨y, h2, h3⟩ := h p (by simp)
    obtain ⟨ys, k1, k2, k3⟩ := compP_all (a := a) (b := b) (g := g) (e := e) (ps := ps) fun d hd => h d (by simp [hd])
    refine ⟨y :: ys, ?_, by simp [k2], fun i d' y' hd hy => ?_⟩
    · rw [compP]
      simp [h2, k1]
    · cases i with
      | zero =>
        simp at hd hy
        subst hd hy
        exact h3
      | succ i => exact k3 i d' y' (by simpa using hd) (by simpa using hy)
theorem compL_map {t : D → List D → Option (List D)} {g : List D → R D} {e : List D} {f : D → D} : ∀ {ds : List D}, (∀ d ∈ ds, ∃ e1, t d e = some e1 ∧ g e1 = .ok (f d)) → compL t tTrue g e ds = .ok (ds.map f)
  | [], _ => rfl
  | d :: ds, h => by
    obtain ⟨e1, h1, h2⟩ := h d (by simp)
    have ih := compL_map (t := t) (g := g) (e := e) (f := f) (ds := ds) fun d hd => h d (by simp [hd])
    rw [compL, h1]
    simp [h2, ih]
theorem compP_map {a b : Nat} {g : List D → R D} {e : List D} {f : D × D → D} : ∀ {ps : List (D × D)}, (∀ p ∈ ps, g ((e.set a p.1).set b p.2) = .ok (f p)) → compP a b tTrue g e ps = .ok (ps.map f)
  | [], _ => rfl
  | p :: ps, h => by
    have ih := compP_map (a := a) (b := b) (g := g) (e := e) (f := f) (ps := ps) fun d hd => h d (by simp [hd])
    rw [compP]
    simp [h p (by simp), ih]
theorem enumL_mem {ds : List D} {p : D × D} (h : p ∈ enumL ds) : ∃ i : Nat, p.1 = .int i ∧ ds[i]? = some p.2 := by
  obtain ⟨i, hi⟩ := List.getElem?_of_mem h
  obtain ⟨h1, h2⟩ := enumL_get (d1 := p.1) (d2 := p.2) hi
  exact ⟨i, h1, h2⟩
theorem cutL_upto {α : Type} (xs : List α) (k : Nat) : cutL xs none (some (k : Int)) = xs.take k := by
  unfold cutL
  rw [HT.sIx_nat, HT.sIx_none, List.drop_zero, Nat.sub_zero]
  by_cases h : k ≤ xs.length
  · rw [Nat.min_eq_left h]
  · rw [Nat.min_eq_right (by omega), List.take_of_length_le (Nat.le_refl _), List.take_of_length_le (by omega)]
theorem cutL_init {α : Type} (xs : List α) (x : α) : cutL (xs ++ [x]) none (some (-1)) = xs := by
  unfold cutL
  have e : HT.sIx (xs ++ [x]).length (xs ++ [x]).length (some (-1)) = xs.length := by
    unfold HT.sIx
    simp only []
    rw [if_pos (by decide), List.length_append, List.length_singleton]
    omega
  rw [e, HT.sIx_none, List.drop_zero, Nat.sub_zero]
  simp
theorem exists_map {α β : Type} {f : α → β} {P : α → Prop} : ∀ {ys : List β}, (∀ y ∈ ys, ∃ a, y = f a ∧ P a) → ∃ as : List α, ys = as.map f ∧ ∀ a ∈ as, P a
  | [], _ => ⟨[], rfl, fun _ h => by simp at h⟩
  | y :: ys, h => by
    obtain ⟨a, rfl, ha⟩ := h y (by simp)
    obtain ⟨as, rfl, has⟩ := exists_map (ys := ys) fun y hy => h y (by simp [hy])
    exact ⟨a :: as, rfl, fun b hb => by
      rcases List.mem_cons.mp hb with rfl | hb
      · exact ha
      · exact has b hb⟩
theorem get_both {α β : Type} {xs : List α} {ys : List β} {y : β} (hl : ys.length = xs.length) (h : y ∈ ys) : ∃ (i : Nat) (x : α), xs[i]? = some x ∧ ys[i]? = some y := by
  obtain ⟨i, hi⟩ := List.getElem?_of_mem h
  have h1 := (List.getElem?_eq_some_iff.mp hi).1
  exact ⟨i, xs[i]'(by omega), by simp, hi⟩
end L2.VL
set_option Elab.async false
set_option linter.all false
set_option maxRecDepth 100000
set_option maxHeartbeats 4000000
namespace L2.VL
open PySem PySem.Spec PyProof.Rows
/-! ## methods of texts -/
def asS : D → R Str
  | .str x => .ok x
  | _ => .bad
@[simp] theorem asS_str (x : Str) : asS (.str x) = .ok x := rfl
def asStrs : List D → Option (List Str)
  | [] => some []
  | .str x :: ds => (asStrs ds).map (x :: ·)
  | _ :: _ => none
@[simp] theorem asStrs_nil : asStrs [] = some [] := rfl
@[simp] theorem asStrs_cons (x : Str) (ds : List D) : asStrs (.str x :: ds) = (asStrs ds).map (x :: ·) := rfl
theorem asStrs_map : ∀ ys : List Str, asStrs (ys.map D.str) = some ys
  | [] => rfl
  | y :: ys => by
    show (asStrs (ys.map D.str)).map (y :: ·) = _
    rw [asStrs_map ys]
    rfl
theorem asStrs_eq : ∀ {ds : List D} {ys : List Str}, asStrs ds = some ys → ds = ys.map D.str := by
  intro ds
  induction ds with
  | nil => intro ys h; cases h; rfl
  | cons d ds ih =>
    intro ys h
    cases d with
    | str x =>
      have h : (asStrs ds).map (x :: ·) = some ys := h
      cases e : asStrs ds with
      | none => rw [e] at h; cases h
      | some zs =>
        rw [e] at h
        cases h
        rw [ih e]
        rfl
    | _ => cases h
theorem reps_strs_of {c : Bool} {K : PySem.W.Frag} {H : Hp} : ∀ {vs : List V} {ys : List Str}, Reps c K H vs (ys.map D.str) → vs = ys.map V.str
  | _, [], .nil => rfl
  | _, _ :: _, .cons h r => by
    cases h
    rw [reps_strs_of r]
    rfl
@[simp] def eM1 (g : Str → D → Option D) (fo fe : List D → R D) (e : List D) : R D := (fo e).bind fun x => (asS x).bind fun a => (fe e).bind fun y => ofO (g a y)
@[simp] def eM0 (g : Str → Option D) (fo : List D → R D) (e : List D) : R D := (fo e).bind fun x => (asS x).bind fun a => ofO (g a)
def DoesS (K : PySem.W.Frag) (r : V → List V → Hp → VK → Prop) (g : Str → D → Option D) : Prop := ∀ (H : Hp) (a : Str) (y : V) (dy d : D) (Q : VK), Rep true K H y dy → g a dy = some d → (∀ v, (∀ B, Rep false K B v d) → Q v H) → r (.str a) [y] H Q
def DoesS0 (r : V → List V → Hp → VK → Prop) (g : Str → Option D) (K : PySem.W.Frag) : Prop := ∀ (H : Hp) (a : Str) (d : D) (Q : VK), g a = some d → (∀ v, (∀ B, Rep false K B v d) → Q v H) → r (.str a) [] H Q
section
variable {X : Cx} {G : List Md} {W : WX} {pos apos : Pos} {o a : Expr} {fo fe : List D → R D} {mo me : Tg} {r : V → List V → Hp → VK → Prop} {g : Str → D → Option D} {g0 : Str → Option D} {name : Str} {id : String}
theorem ve_m1 (slot : PySem.Slot "str" name id) (ty : typeOf (.builtin id) = pure (.type "method_descriptor")) (rule : MtR X id r) (hd : DoesS X.K r g) (ho : PE X o (vE X.K X.mg G W mo fo)) (he : PE X a (vE X.K X.mg G W me fe))
    (hs : starEach [a] X.env = [(false, eval a X.env)] := by rfl) (hbase : attributeBase o name X.env (eval o X.env) = eval o X.env := by rfl) (hline : (apos.endLine == pos.line) = true := by rfl) :
    PE X (.Call (.Attribute o name apos) [a] [] pos) (vE X.K X.mg G W .im (eM1 g fo fe)) := by
  refine pe_weak (pe_m1 slot ty rule ho he hs hbase hline) fun sg H Q ⟨B0, H0, B, e, S, k⟩ => ?_
  refine seq1 (P := KE X.K X.mg W sg H0 B H Q .im) S k (fun c k => k) (fun k => k) fun B1 H1 x d1 x1 S1 r1 k1 => ?_
  have q1 := r1.all x1.s S1.ext.h
  cases q1 with
  | str z =>
    refine ⟨⟨z, rfl⟩, ?_⟩
    refine seq1 (P := KE X.K X.mg W sg H0 B H Q .im) S1 k1 (fun c k B' H' a y hm => k B' H' a (x1.trans y) hm) (fun k => k) fun B2 H2 y d2 x2 S2 r2 k2 => ?_
    cases eg : g z d2 with
    | none => rw [eg] at k2; exact k2.elim
    | some d =>
      rw [eg] at k2
      exact hd H2 z y d2 d Q ((r2.earlier x1.h).all x2.s S2.ext.h) eg fun v hv => k2 B2 H2 v (x1.trans x2) (hv B2)
  | _ => exact k1.elim
theorem ve_m0 (slot : PySem.Slot "str" name id) (ty : typeOf (.builtin id) = pure (.type "method_descriptor")) (rule : MtR X id r) (hd : DoesS0 r g0 X.K) (ho : PE X o (vE X.K X.mg G W mo fo))
    (hbase : attributeBase o name X.env (eval o X.env) = eval o X.env := by rfl) (hline : (apos.endLine == pos.line) = true := by rfl) :
    PE X (.Call (.Attribute o name apos) [] [] pos) (vE X.K X.mg G W .im (eM0 g0 fo)) := by
  refine pe_weak (pe_m0 slot ty rule ho hbase hline) fun sg H Q ⟨B0, H0, B, e, S, k⟩ => ?_
  refine seq1 (P := KE X.K X.mg W sg H0 B H Q .im) S k (fun c k => k) (fun k => k) fun B1 H1 x d1 x1 S1 r1 k1 => ?_
  have q1 := r1.all x1.s S1.ext.h
  cases q1 with
  | str z =>
    refine ⟨⟨z, rfl⟩, ?_⟩
    cases eg : g0 z with
    | none => have k1 : KE X.K X.mg W sg H0 B H Q .im (ofO (g0 z)) := k1; rw [eg] at k1; exact k1.elim
    | some d =>
      have k1 : KE X.K X.mg W sg H0 B H Q .im (ofO (g0 z)) := k1
      rw [eg] at k1
      exact hd H1 z d Q eg fun v hv => k1 B1 H1 v x1 (hv B1)
  | _ => exact k1.elim
def gSIdx (a : Str) : D → Option D
  | .str b => match Builtin.Str.occurrences a b 0 a.length 1 with
    | i :: _ => some (.int (i : Nat))
    | [] => none
  | _ => none
theorem d_sidx {K : PySem.W.Frag} : DoesS K (fun x xs H Q => ∃ a b i rest, x = .str a ∧ xs = [.str b] ∧ Builtin.Str.occurrences a b 0 a.length 1 = i :: rest ∧ Q (.int (i : Nat)) H) gSIdx := by
  intro H a y dy d Q r e q
  unfold gSIdx at e
  split at e
  · cases r
    rename_i b
    split at e
    · rename_i i rest h
      cases e
      exact ⟨a, b, i, rest, rfl, rfl, h, q _ fun _ => .int _⟩
    · cases e
  · cases e
def gJoin (a : Str) : D → Option D
  | .lst ds => (asStrs ds).bind fun ys => if (ys.map (·.length)).sum + ys.length * a.length ≤ 16777216 then some (.str (Txt.join a ys)) else none
  | .tup ds => (asStrs ds).bind fun ys => if (ys.map (·.length)).sum + ys.length * a.length ≤ 16777216 then some (.str (Txt.join a ys)) else none
  | _ => none
@[simp] theorem gJoin_lst (a : Str) (ds : List D) : gJoin a (.lst ds) = (asStrs ds).bind fun ys => if (ys.map (·.length)).sum + ys.length * a.length ≤ 16777216 then some (.str (Txt.join a ys)) else none := rfl
@[simp] theorem gJoin_tup (a : Str) (ds : List D) : gJoin a (.tup ds) = (asStrs ds).bind fun ys => if (ys.map (·.length)).sum + ys.length * a.length ≤ 16777216 then some (.str (Txt.join a ys)) else none := rfl
def rJoinS (K : PySem.W.Frag) : V → List V → Hp → VK → Prop := fun x xs H Q => ∃ a p, ∃ ys : List Str, x = .str a ∧ xs = [.ref p] ∧ (SqL K H p (ys.map V.str) ∨ SqT K H p (ys.map V.str)) ∧
      (ys.map (·.length)).sum + ys.length * a.length ≤ 16777216 ∧ Q (.str (Txt.join a ys)) H
theorem d_join {K : PySem.W.Frag} : DoesS K (rJoinS K) gJoin := by
  intro H a y dy d Q r e q
  cases dy with
  | lst ds =>
    rw [gJoin_lst] at e
    cases es : asStrs ds with
    | none => rw [es] at e; cases e
    | some ys =>
      rw [es] at e
      have e : (if (ys.map (·.length)).sum + ys.length * a.length ≤ 16777216 then some (D.str (Txt.join a ys)) else none) = some d := e
      have ed := asStrs_eq es
      subst ed
      split at e
      · rename_i hz
        cases e
        cases r with
        | lst h rs =>
          have := reps_strs_of rs
          subst this
          exact ⟨a, _, ys, rfl, rfl, .inl (.inl h), hz, q _ fun _ => .str _⟩
        | kls _ h rs =>
          have := reps_strs_of rs
          subst this
          exact ⟨a, _, ys, rfl, rfl, .inl h, hz, q _ fun _ => .str _⟩
      · cases e
  | tup ds =>
    rw [gJoin_tup] at e
    cases es : asStrs ds with
    | none => rw [es] at e; cases e
    | some ys =>
      rw [es] at e
      have e : (if (ys.map (·.length)).sum + ys.length * a.length ≤ 16777216 then some (D.str (Txt.join a ys)) else none) = some d := e
      have ed := asStrs_eq es
      subst ed
      split at e
      · rename_i hz
        cases e
        cases r with
        | tup h rs =>
          have := reps_strs_of rs
          subst this
          exact ⟨a, _, ys, rfl, rfl, .inr (.inl h.rd), hz, q _ fun _ => .str _⟩
      · cases e
  | _ => cases e
theorem ve_join (ho : PE X o (vE X.K X.mg G W mo fo)) (he : PE X a (vE X.K X.mg G W me fe)) (hs : starEach [a] X.env = [(false, eval a X.env)] := by rfl) (hbase : attributeBase o "join" X.env (eval o X.env) = eval o X.env := by rfl) (hline : (apos.endLine == pos.line) = true := by rfl) :
    PE X (.Call (.Attribute o "join" apos) [a] [] pos) (vE X.K X.mg G W .im (eM1 gJoin fo fe)) := ve_m1 F.slot_str_join F.type_str_join mt_join d_join ho he hs hbase hline
def splD (a : Str) : D → R D
  | .str b => if (b.length == 0) = false ∧ a.length + 2 ≤ sizeLine then .ok (.lst ((Txt.split a b).map .str)) else .bad
  | _ => .bad
@[simp] theorem splD_str (a b : Str) : splD a (.str b) = if (b.length == 0) = false ∧ a.length + 2 ≤ sizeLine then .ok (.lst ((Txt.split a b).map .str)) else .bad := rfl
@[simp] def eSplit (fo fe : List D → R D) (e : List D) : R D := (fo e).bind fun x => (asS x).bind fun a => (fe e).bind fun y => splD a y
theorem reps_strs {K : PySem.W.Frag} {B : Hp} : ∀ ys : List Str, Reps false K B (ys.map V.str) (ys.map D.str)
  | [] => .nil
  | y :: ys => .cons (.str y) (reps_strs ys)
theorem ve_split (ho : PE X o (vE X.K X.mg G W mo fo)) (he : PE X a (vE X.K X.mg G W me fe)) (hs : starEach [a] X.env = [(false, eval a X.env)] := by rfl) (hbase : attributeBase o "split" X.env (eval o X.env) = eval o X.env := by rfl) (hline : (apos.endLine == pos.line) = true := by rfl) :
    PE X (.Call (.Attribute o "split" apos) [a] [] pos) (vE X.K X.mg G W .fr (eSplit fo fe)) := by
  refine pe_weak (pe_m1 F.slot_str_split F.type_str_split mt_split ho he hs hbase hline) fun sg H Q ⟨B0, H0, B, e, S, k⟩ => ?_
  refine seq1 (P := KE X.K X.mg W sg H0 B H Q .fr) S k (fun c k => k) (fun k => k) fun B1 H1 x d1 x1 S1 r1 k1 => ?_
  have q1 := r1.all x1.s S1.ext.h
  cases q1 with
  | str z =>
    refine ⟨⟨z, rfl⟩, ?_⟩
    refine seq1 (P := KE X.K X.mg W sg H0 B H Q .fr) S1 k1 (fun c k B' H' a y hm => k B' H' a (x1.trans y) hm) (fun k => k) fun B2 H2 y d2 x2 S2 r2 k2 => ?_
    have q2 := (r2.earlier x1.h).all x2.s S2.ext.h
    cases q2 with
    | str b =>
      rw [splD_str] at k2
      split at k2
      · rename_i hz
        refine ⟨z, b, rfl, rfl, hz.1, hz.2, fun p hp => ?_⟩
        exact k2 B2 _ _ ((x1.trans x2).trans (.newH x2.s hp)) ⟨p, rfl, (x1.trans x2).h.free hp, x2.s.free hp, _, upd_same, reps_strs _⟩
      · exact k2.elim
    | _ => exact k2.elim
  | _ => exact k1.elim
def gStarts (a : Str) : D → Option D
  | .str b => some (.bl (Txt.startswith a b))
  | _ => none
theorem d_starts {K : PySem.W.Frag} : DoesS K (fun x xs H Q => ∃ a b, x = .str a ∧ xs = [.str b] ∧ Q (.bl (Txt.startswith a b)) H) gStarts := by
  intro H a y dy d Q r e q
  cases dy with
  | str b =>
    cases e
    cases r
    exact ⟨a, b, rfl, rfl, q _ fun _ => .bl _⟩
  | _ => cases e
def gDigit (a : Str) : Option D := some (.bl (Txt.isdigit a))
theorem d_digit {K : PySem.W.Frag} : DoesS0 (fun x xs H Q => ∃ a, x = .str a ∧ xs = [] ∧ True ∧ Q (.bl (Txt.isdigit a)) H) gDigit K := by
  intro H a d Q e q
  cases e
  exact ⟨a, rfl, rfl, trivial, q _ fun _ => .bl _⟩
end
end L2.VL
set_option Elab.async false
set_option linter.all false
set_option maxRecDepth 100000
set_option maxHeartbeats 4000000
namespace L2.VL
open PySem PySem.Spec PyProof.Rows
/-! ## a caught error -/
/-- is an error of the class c one of the class y -/
def kinB (c y : Str) : Bool := decide (c = y) || decide (y = ("OddsError" : Str))
theorem kit_own {K : PySem.W.Frag} {C Y : Addr} {b : Bool} (hi : PySem.W.isClsIn K Y = true) (ht : PySem.W.typeIn K (.ref Y) = some (.type "type")) (hs : PySem.W.subIn K (.ref C) (.ref Y) = some b) (hr : PySem.W.subIn K (.ref C) (.ref C) = some true) :
    PySem.W.kitOne K (.ref C) (.ref Y) = some b := by
  unfold PySem.W.kitOne
  by_cases h : (Value.ref C == Value.ref Y) = true
  · rw [if_pos h]
    have e : C = Y := by
      have := LawfulBEq.eq_of_beq h
      injection this
    subst e
    rw [hr] at hs
    exact hs
  · rw [if_neg h]
    unfold PySem.W.kitCls
    have hc : (PySem.W.clsIn K Y).isSome = true := hi
    simp only [hc, ht]
    exact hs
theorem kit_val {K : PySem.W.Frag} {C : Addr} (hs : PySem.W.subIn K (.ref C) (.type "ValueError") = some true) : PySem.W.kitOne K (.ref C) (.type "ValueError") = some true := by
  unfold PySem.W.kitOne
  rw [if_neg (fun h => by have := LawfulBEq.eq_of_beq h; cases this)]
  unfold PySem.W.kitCls
  have hm : PySem.W.kitMeta "ValueError" = true := by decide +kernel
  simp only [hm]
  exact hs
theorem exm_own {K : PySem.W.Frag} {C O : Addr} (he : PySem.W.subIn K (.ref O) (.type "BaseException") = some true) (hi : PySem.W.isClsIn K O = true) (ht : PySem.W.typeIn K (.ref O) = some (.type "type")) (hs : PySem.W.subIn K (.ref C) (.ref O) = some true) :
    PySem.W.exmOne K (.ref C) (.ref O) = some true := by
  unfold PySem.W.exmOne
  rw [if_pos (by rw [he]; decide)]
  unfold PySem.W.kitCls
  have hc : (PySem.W.clsIn K O).isSome = true := hi
  simp only [hc, ht]
  exact hs
structure ExT (K : PySem.W.Frag) (mg : Str → Option Value) (ys : List Str) (c : Str) (C : Addr) : Prop where
  ec : ExcC K C
  kin : ∀ y ∈ ys, ∀ Y, mg y = some (.ref Y) → PySem.W.kitOne K (.ref C) (.ref Y) = some (kinB c y)
  val : PySem.W.kitOne K (.ref C) (.type "ValueError") = some true
  odd : ∀ O, mg "OddsError" = some (.ref O) → PySem.W.exmOne K (.ref C) (.ref O) = some true
def ExP (X : Cx) (ys : List Str) (a : Addr) (c : Str) : Prop := ∃ C oe, (a, oe) ∈ X.pn ∧ Zc (.ref C) none oe ∧ (∃ vs, oe.data = .fields vs) ∧ ExT X.K X.mg ys c C
theorem inst_of {h : Heap} {a C : Addr} {oe : Obj} (hget : h.get? a = some oe) (hz : Zc (.ref C) none oe) (hf : ∃ vs, oe.data = .fields vs) : PySem.W.InstAt h a oe C none := by
  obtain ⟨vs, hv⟩ := hf
  obtain ⟨oc, od, oda, osl⟩ := oe
  obtain ⟨h1, h2⟩ := hz
  dsimp only at h1 h2 hv
  subst h1 h2 hv
  exact ⟨hget, rfl, rfl, trivial⟩
section
variable {X : Cx} {a C : Addr} {oe : Obj}
/-- isinstance(e, y), e an error that the context bears -/
theorem call_isP (hp : (a, oe) ∈ X.pn) (E : ExcC X.K C) (hz : Zc (.ref C) none oe) (hf : ∃ vs, oe.data = .fields vs) :
    CallR X (.builtin "isinstance") (fun xs H Q => ∃ (y : V) (u : Value) (b : Bool), xs = [.ref a, y] ∧ ClsV y u ∧ PySem.W.kitOne X.K (.ref C) u = some b ∧ Q (.bl b) H) := by
  intro pins s sg H xs us Q I r h
  obtain ⟨y, u, b, rfl, hk, e, q⟩ := h
  obtain ⟨u1, u2, rfl, r1, r2⟩ := vals2 r
  cases (show u1 = Value.ref a from r1)
  have e2 := hk.eq r2
  subst e2
  have hget := (I.pin (a, oe) (List.mem_append_left _ hp)).1
  exact PySem.W.kia_one (PySem.W.handS_kitx_exc E.hg E.hk E.hs E.hd E.ha E.hn E.ht E.hm) I.kIn (inst_of hget hz hf) e (fun z => nomatch z) fun tk => ⟨.bl b, H, I.tok tk, rfl, q⟩
theorem call_isPT (hp : (a, oe) ∈ X.pn) (E : ExcC X.K C) (hz : Zc (.ref C) none oe) (hf : ∃ vs, oe.data = .fields vs) :
    CallR X (.builtin "isinstance") (fun xs H Q => ∃ (tp : Addr) (cs : List V) (ws : List Value) (b : Bool), xs = [.ref a, .ref tp] ∧ H tp = some (.tup cs) ∧ Paired ClsV cs ws ∧ PySem.W.kitAny X.K (.ref C) ws = some b ∧ Q (.bl b) H) := by
  intro pins s sg H xs us Q I r h
  obtain ⟨tp, cs, ws, b, rfl, hT, hk, e, q⟩ := h
  obtain ⟨u1, u2, rfl, r1, r2⟩ := vals2 r
  cases (show u1 = Value.ref a from r1)
  cases (show u2 = Value.ref tp from r2)
  have hget := (I.pin (a, oe) (List.mem_append_left _ hp)).1
  obtain ⟨_, its, rv, o, h1, h2, n, h3⟩ := (show ObjOk X.prog X.w H s.heap tp (.tup cs) from I.hok tp _ hT)
  have e3 := ClsV.all hk rv
  subst e3
  obtain ⟨oc, od, dt, sl⟩ := o
  simp only at h2 h3
  subst h2 h3
  exact PySem.W.kia_tup (PySem.W.handS_kitx_exc E.hg E.hk E.hs E.hd E.ha E.hn E.ht E.hm) I.kIn (inst_of hget hz hf) h1 e (fun z => nomatch z) fun tk => ⟨.bl b, H, I.tok tk, rfl, q⟩
end
def kinD (y : Str) : D → R D
  | .str c => .ok (.bl (kinB c y))
  | _ => .bad
@[simp] theorem kinD_str (y c : Str) : kinD y (.str c) = .ok (.bl (kinB c y)) := rfl
def kinT (zs : List Str) : D → R D
  | .str c => .ok (.bl (zs.any fun y => kinB c y))
  | _ => .bad
@[simp] theorem kinT_str (zs : List Str) (c : Str) : kinT zs (.str c) = .ok (.bl (zs.any fun y => kinB c y)) := rfl
def kinV : D → R D
  | .str _ => .ok (.bl true)
  | _ => .bad
@[simp] theorem kinV_str (c : Str) : kinV (.str c) = .ok (.bl true) := rfl
@[simp] def eIsE (j : Nat) (y : Str) (e : List D) : R D := (ofO e[j]?).bind (kinD y)
@[simp] def eIsT (j : Nat) (zs : List Str) (e : List D) : R D := (ofO e[j]?).bind (kinT zs)
@[simp] def eIsV (j : Nat) (e : List D) : R D := (ofO e[j]?).bind kinV
section
variable {X : Cx} {G : List Md} {W : WX} {p px py pos : Pos} {a : Addr} {c x y : Str} {ys : List Str} {j : Nat} {Y : Addr}
theorem ve_isE (P : ExP X ys a c) (hy : y ∈ ys) (hm : X.mg "isinstance" = none) (hmy : X.mg y = some (.ref Y)) (hG : G[j]? = some (.ex a c) := by rfl) (hN : X.N[j]? = some x := by rfl)
    (hv : Vis X.env.scope x := by first | exact Or.inl rfl | exact Or.inr (Or.inl rfl) | exact Or.inr (Or.inr rfl)) (hd : (x == ("__debug__" : Str)) = false := by decide) (hcd : (x == ("__classdict__" : Str)) = false := by decide)
    (hg : Gl X "isinstance" := by rfl) (hgy : Gl X y := by rfl) (hdy : (y == ("__debug__" : Str)) = false := by decide)
    (he : starEach [.Name x px, .Name y py] X.env = (false, eval (.Name x px) X.env) :: starEach [.Name y py] X.env := by rfl) (he2 : starEach [.Name y py] X.env = (false, eval (.Name y py) X.env) :: starEach [] X.env := by rfl) (hpl : (backTo pos (starEach [.Name y py] X.env)).any (·.1) = false := by rfl) :
    PE X (.Call (.Name "isinstance" p) [.Name x px, .Name y py] [] pos) (vE X.K X.mg G W .im (eIsE j y)) := by
  obtain ⟨C, oe, hp, hz, hf, T⟩ := P
  refine pe_weak (pe_callB (call_isP hp T.ec hz hf) hg hm (by decide +kernel) (pa_cons (pe_var hN hv hd hcd) (pa_cons (pe_glob (v := .ref Y) hgy hmy rfl hdy) pa_nil he2) he) (by decide) (by decide) he hpl) fun sg H Q ⟨B0, H0, B, e, S, k⟩ => ?_
  obtain ⟨v, d, h1, h2, h3⟩ := S.sl.get hG
  unfold eIsE at k
  rw [h2] at k
  cases v with
  | none => exact h3.elim
  | some v =>
    obtain ⟨rfl, rfl⟩ := h3
    exact ⟨_, h1, .ref Y, .ref Y, kinB c y, rfl, .own Y, T.kin y hy Y hmy, k B H _ (.refl S.ext.s) (.bl _)⟩
theorem ve_isV (P : ExP X ys a c) (hm : X.mg "isinstance" = none) (hmy : X.mg "ValueError" = none) (hG : G[j]? = some (.ex a c) := by rfl) (hN : X.N[j]? = some x := by rfl)
    (hv : Vis X.env.scope x := by first | exact Or.inl rfl | exact Or.inr (Or.inl rfl) | exact Or.inr (Or.inr rfl)) (hd : (x == ("__debug__" : Str)) = false := by decide) (hcd : (x == ("__classdict__" : Str)) = false := by decide)
    (hg : Gl X "isinstance" := by rfl) (hgy : Gl X "ValueError" := by rfl)
    (he : starEach [.Name x px, .Name "ValueError" py] X.env = (false, eval (.Name x px) X.env) :: starEach [.Name "ValueError" py] X.env := by rfl) (he2 : starEach [.Name "ValueError" py] X.env = (false, eval (.Name "ValueError" py) X.env) :: starEach [] X.env := by rfl) (hpl : (backTo pos (starEach [.Name "ValueError" py] X.env)).any (·.1) = false := by rfl) :
    PE X (.Call (.Name "isinstance" p) [.Name x px, .Name "ValueError" py] [] pos) (vE X.K X.mg G W .im (eIsV j)) := by
  obtain ⟨C, oe, hp, hz, hf, T⟩ := P
  refine pe_weak (pe_callB (call_isP hp T.ec hz hf) hg hm (by decide +kernel) (pa_cons (pe_var hN hv hd hcd) (pa_cons (pe_bltn (v := .ty "ValueError") hgy hmy (by decide +kernel) rfl (by decide) (by decide)) pa_nil he2) he) (by decide) (by decide) he hpl) fun sg H Q ⟨B0, H0, B, e, S, k⟩ => ?_
  obtain ⟨v, d, h1, h2, h3⟩ := S.sl.get hG
  unfold eIsV at k
  rw [h2] at k
  cases v with
  | none => exact h3.elim
  | some v =>
    obtain ⟨rfl, rfl⟩ := h3
    exact ⟨_, h1, .ty "ValueError", .type "ValueError", true, rfl, .ty _, T.val, k B H _ (.refl S.ext.s) (.bl _)⟩
/-! a tuple of classes -/
structure PC (X : Cx) (es : List Expr) (zs : List Str) (Ys : List Addr) : Prop where
  pa : PA X es (fun _ H Rr => Rr (Ys.map V.ref) H)
  mg : ∀ (i : Nat) z Y, zs[i]? = some z → Ys[i]? = some Y → X.mg z = some (.ref Y)
  len : zs.length = Ys.length
theorem pa_weak' {es : List Expr} {t t' : TA} (h : PA X es t) (w : ∀ sg H Q, t' sg H Q → t sg H Q) : PA X es t' := ⟨fun pos pins s sg H Q I q => h.run pos pins s sg H Q I (w sg H Q q)⟩
theorem pc_nil : PC X [] [] [] := ⟨pa_weak' pa_nil fun _ _ _ q => q, fun i z Y h => by simp at h, rfl⟩
theorem pc_cons {es : List Expr} {zs : List Str} {Ys : List Addr} (hmy : X.mg y = some (.ref Y)) (h : PC X es zs Ys) (hgy : Gl X y := by rfl) (hdy : (y == ("__debug__" : Str)) = false := by decide)
    (hs : starEach (.Name y py :: es) X.env = (false, eval (.Name y py) X.env) :: starEach es X.env := by rfl) : PC X (.Name y py :: es) (y :: zs) (Y :: Ys) :=
  ⟨pa_weak' (pa_cons (pe_glob (v := .ref Y) hgy hmy rfl hdy) h.pa hs) fun _ _ _ q => q, fun i z Z h1 h2 => by
    cases i with
    | zero =>
      simp at h1 h2
      subst h1 h2
      exact hmy
    | succ i => exact h.mg i z Z (by simpa using h1) (by simpa using h2), congrArg (· + 1) h.len⟩
theorem kitAny_of {K : PySem.W.Frag} {mg : Str → Option Value} {C : Addr} (T : ExT K mg ys c C) : ∀ {zs : List Str} {Ys : List Addr}, (∀ z ∈ zs, z ∈ ys) → zs.length = Ys.length → (∀ (i : Nat) z Y, zs[i]? = some z → Ys[i]? = some Y → mg z = some (.ref Y)) →
    PySem.W.kitAny K (.ref C) (Ys.map Value.ref) = some (zs.any fun y => kinB c y)
  | [], [], _, _, _ => rfl
  | [], _ :: _, _, h, _ => by simp at h
  | _ :: _, [], _, h, _ => by simp at h
  | z :: zs, Y :: Ys, hz, hl, hm => by
    have h1 := T.kin z (hz z (by simp)) Y (hm 0 z Y rfl rfl)
    have ih := kitAny_of T (zs := zs) (Ys := Ys) (fun z h => hz z (by simp [h])) (by simpa using hl) fun i z Y a b => hm (i + 1) z Y (by simpa using a) (by simpa using b)
    rw [List.map_cons, PySem.W.kitAny, h1, List.any_cons]
    cases kinB c z with
    | true => rfl
    | false => exact ih
theorem paired_own : ∀ Ys : List Addr, Paired ClsV (Ys.map V.ref) (Ys.map Value.ref)
  | [] => .nil
  | Y :: Ys => .cons (.own Y) (paired_own Ys)
theorem ve_isT {es : List Expr} {zs : List Str} {Ys : List Addr} {kk : Nat} (P : ExP X ys a c) (hy : ∀ z ∈ zs, z ∈ ys) (hm : X.mg "isinstance" = none) (hc : PC X es zs Ys) (hG : G[j]? = some (.ex a c) := by rfl) (hN : X.N[j]? = some x := by rfl)
    (hv : Vis X.env.scope x := by first | exact Or.inl rfl | exact Or.inr (Or.inl rfl) | exact Or.inr (Or.inr rfl)) (hd : (x == ("__debug__" : Str)) = false := by decide) (hcd : (x == ("__classdict__" : Str)) = false := by decide)
    (hsz : zs.length ≤ sizeLine := by decide) (hg : Gl X "isinstance" := by rfl)
    (he : starEach [.Name x px, .Tuple es kk py] X.env = (false, eval (.Name x px) X.env) :: starEach [.Tuple es kk py] X.env := by rfl) (he2 : starEach [.Tuple es kk py] X.env = (false, eval (.Tuple es kk py) X.env) :: starEach [] X.env := by rfl) (hpl : (backTo pos (starEach [.Tuple es kk py] X.env)).any (·.1) = false := by rfl) :
    PE X (.Call (.Name "isinstance" p) [.Name x px, .Tuple es kk py] [] pos) (vE X.K X.mg G W .im (eIsT j zs)) := by
  obtain ⟨C, oe, hp, hz, hf, T⟩ := P
  refine pe_weak (pe_callB (call_isPT hp T.ec hz hf) hg hm (by decide +kernel) (pa_cons (pe_var hN hv hd hcd) (pa_cons (pe_tup hc.pa) pa_nil he2) he) (by decide) (by decide) he hpl) fun sg H Q ⟨B0, H0, B, e, S, k⟩ => ?_
  obtain ⟨v, d, h1, h2, h3⟩ := S.sl.get hG
  unfold eIsT at k
  rw [h2] at k
  cases v with
  | none => exact h3.elim
  | some v =>
    obtain ⟨rfl, rfl⟩ := h3
    refine ⟨_, h1, by rw [List.length_map, ← hc.len]; exact hsz, fun q hq => ?_⟩
    exact ⟨q, _, _, _, rfl, upd_same, paired_own Ys, kitAny_of T hy hc.len hc.mg, k B _ _ (.newH S.ext.s hq) (.bl _)⟩
end
end L2.VL
set_option Elab.async false
set_option linter.all false
set_option maxRecDepth 100000
set_option maxHeartbeats 4000000
namespace L2.VL
open PySem PySem.Spec PyProof.Rows L2H
/-! ## a def that is handed a caught error -/
/-- the promise: pe is the error's object, pinned -/
def spE (K : PySem.W.Frag) (mg : Str → Option Value) (ys : List Str) (rm : Rm) (F : List D → R D) (pe : Addr × Obj) : Sp := fun vs H Q E =>
  ∃ B c C, Same B H ∧ vs = [.ref pe.1] ∧ Zc (.ref C) none pe.2 ∧ (∃ fs, pe.2.data = .fields fs) ∧ ExT K mg ys c C ∧ KF K mg rm B H Q E (F [.str c])
structure FnE (P : Program) (w : World) (K : PySem.W.Frag) (mg : Str → Option Value) (base : Heap) (k : Nat) (f : Addr) (fd : FuncData) (ps : List Str) (sp : Addr × Obj → Sp) : Prop where
  one : ∀ pe vs H Q E, sp pe vs H Q E → vs.length = ps.length
  go : ∀ (A : Around) (out : List Env) (s : Shared) (H : Hp) (ar : PySem.Args) (us : List Value) (vs : List V) (Q : VK) (E : XK) (pe : Addr × Obj), RoomH k A → PinOk out H s pe → Env0 P w K mg base A out s H → BindsTo s fd ar (ps.zip us) → Vals vs us →
    sp pe vs H Q E → codeAny (model P w) A (.call (.ref f) ar) (CR (L2.CX P w) out P w H s Q E) s
section
variable {P : Program} {w : World} {K : PySem.W.Frag} {mg : Str → Option Value} {base : Heap} {x qual : Str} {st : Stmt} {f : Addr} {fd : FuncData} {N ps : List Str} {k : Nat} {sp : Addr × Obj → Sp}
theorem fnE_of (F : Fun K x qual st f fd) (S : FnScope N ps (defScope st)) (one : ∀ pe vs H Q E, sp pe vs H Q E → vs.length = ps.length)
    (hb : ∀ (cdv : Value) (A : Around) (out : List Env) (s : Shared) (H : Hp) (vs : List V) (Q : VK) (E : XK) (pe : Addr × Obj), RoomH k (A.deeper (envOfC qual (defScope st) s.heap.objs.size f cdv)) → sp pe vs H Q E →
      ∃ t, PSs (cxH (L2.CX P w) P w K mg base N qual (defScope st) f cdv A out s H E pe) (defBody st) t ∧ t { nx := fun _ H1 => Q .non H1, rt := Q } (start N vs) H) :
    FnE P w K mg base (k + 1) f fd ps sp := by
  obtain ⟨oc, od, kV, doc, pm, an, cdv, ct, osl, rfl, lk, hcd⟩ := F.ex
  refine ⟨one, fun A out s H ar us vs Q E pe room pin e0 bind rv hs => ?_⟩
  have len1 := one _ _ _ _ _ hs
  have kin : K.In s.heap := e0.mod.kin.keeps (fun b o z => (e0.bs b o z).1)
  have noLim : s.heap.NoLimit := e0.mod.nolimit.keeps (fun b o z => (e0.bs b o z).1)
  have kinds : ∀ y ∈ ps.zip us, (defScope st).names.lookup y.1 = some .local ∨ ((defScope st).names.lookup y.1 = some .cell ∧ ((cellsFrom (s.heap.objs.size + 1) (defScope st).names []).lookup y.1).isSome = true) := by
    intro y hy
    obtain ⟨n, v⟩ := y
    rcases S.par n (List.of_mem_zip hy).1 with z | z
    · exact .inl z
    · exact .inr ⟨z, PySem.W.cellsFrom_some _ _ _ (.inl z)⟩
  refine codeAny_call_function room.depth (kin _ _ lk) rfl S.co S.gen rfl (PySem.W.codeRec_of kin hcd) (bind _ _ _ _ ?_)
  refine wpAny_newFunctionEnv_cells S.kind kinds fun env he s1 ic => ?_
  subst he
  refine ⟨noLim.keeps ic.toInCall.keep, codeAny_func ?_⟩
  obtain ⟨t, h1, h2⟩ := hb cdv A out s H vs Q E pe (room.deeper _) hs
  have I0 : Inv (cxH (L2.CX P w) P w K mg base N qual (defScope st) f cdv A out s H E pe) [] (start N vs) H s1 := inv_startH S pin e0 len1 rv ic
  refine wpAny_mono (h1.run [] s1 (start N vs) H _ I0 h2) (fun fl s2 q => ?_) fun e s2 q => q
  cases fl with
  | ret u =>
    obtain ⟨v, sg1, H1, J, r1, q1⟩ := q
    exact ⟨v, H1, J.os, J.bare, J.base, J.hok, r1, q1⟩
  | next =>
    obtain ⟨sg1, H1, J, q1⟩ := q
    exact ⟨V.non, H1, J.os, J.bare, J.base, J.hok, rfl, q1⟩
  | brk => obtain ⟨_, _, _, z⟩ := q; exact z.elim
  | cont => obtain ⟨_, _, _, z⟩ := q; exact z.elim
variable {ys : List Str} {G' : List Md} {g : List D → R Fl}
def startE (a : Addr) (c : Str) (n : Nat) : List Md := .ex a c :: List.replicate (n - 1) .un
theorem okE {rm : Rm} {M : List D → R D} (F : Fun K x qual st f fd) (S : FnScope N ps (defScope st)) (hl : ps.length = 1) (hN : 1 ≤ N.length) (hM : M = runFr N.length g)
    (hbody : ∀ (cdv : Value) (A : Around) (out : List Env) (s : Shared) (H : Hp) (E : XK) (pe : Addr × Obj) (c : Str), RoomH k (A.deeper (envOfC qual (defScope st) s.heap.objs.size f cdv)) → ExP (cxH (L2.CX P w) P w K mg base N qual (defScope st) f cdv A out s H E pe) ys pe.1 c →
      PSs (cxH (L2.CX P w) P w K mg base N qual (defScope st) f cdv A out s H E pe) (defBody st) (vS K mg (startE pe.1 c N.length) G' (fun cls d _ H => E cls d H) rm g)) :
    FnE P w K mg base (k + 1) f fd ps (spE K mg ys rm M) := by
  subst hM
  refine fnE_of F S (fun pe vs H Q E h => ?_) fun cdv A out s H vs Q E pe hr h => ?_
  · obtain ⟨_, _, _, _, rfl, _⟩ := h
    exact hl.symm
  · obtain ⟨B, c, C, sb, rfl, hz, hf, T, kf⟩ := h
    refine ⟨_, hbody cdv A out s H E pe c hr ⟨C, pe.2, by show _ ∈ [pe]; simp, hz, hf, T⟩, ?_⟩
    refine ⟨B, H, B, [.str c] ++ List.replicate (N.length - 1) .non, ⟨.refl sb, ?_, fun i j q g1 => ?_⟩, ?_⟩
    · show Slots K H B H (.ex pe.1 c :: List.replicate (N.length - 1) .un) (some (.ref pe.1) :: List.replicate (N.length - 1) none) (.str c :: List.replicate (N.length - 1) .non)
      refine ⟨⟨rfl, rfl⟩, ?_⟩
      induction (N.length - 1) with
      | zero => trivial
      | succ n ih => exact ⟨trivial, ih⟩
    · have hm := List.mem_of_getElem? g1
      rcases List.mem_cons.mp hm with z | z
      · cases z
      · have := List.eq_of_mem_replicate z
        cases this
    · unfold runFr at kf
      have kf : KF K mg rm B H Q E ((g ([.str c] ++ List.replicate (N.length - 1) .non)).bind Fl.finr) := kf
      cases eg : g ([.str c] ++ List.replicate (N.length - 1) .non) with
      | bad => rw [eg] at kf; exact kf
      | ex c => rw [eg] at kf; exact fun B1 H1 a sg1 y hm => kf B1 H1 a y hm
      | ok fl =>
        rw [eg] at kf
        cases fl with
        | nx e1 => exact kf.elim
        | rt d => exact kf
end
section
variable {X : Cx} {G : List Md} {W : WX} {pos p px : Pos} {rm : Rm} {F : List D → R D} {k : Nat} {f a : Addr} {c : Str} {fd : FuncData} {ps ys : List Str} {x y : Str} {j : Nat}
@[simp] def eCallE (F : List D → R D) (j : Nat) (e : List D) : R D := (ofO e[j]?).bind fun d => F [d]
/-- f(e), e the caught error -/
theorem ve_callE (E : ExP X ys a c) (Fk : FnE X.prog X.w X.K X.mg X.base k f fd ps (spE X.K X.mg ys rm F)) (hr : RoomH k X.A) (hm : X.mg x = some (.ref f)) (hk : PySem.W.keepIn X.K (.ref f) = true) (hb : Binds X.K fd ps []) (tk : Takes X W)
    (hG : G[j]? = some (.ex a c) := by rfl) (hN : X.N[j]? = some y := by rfl) (hv : Vis X.env.scope y := by first | exact Or.inl rfl | exact Or.inr (Or.inl rfl) | exact Or.inr (Or.inr rfl)) (hd : (y == ("__debug__" : Str)) = false := by decide) (hcd : (y == ("__classdict__" : Str)) = false := by decide)
    (hg : Gl X x := by rfl) (hdb : (x == ("__debug__" : Str)) = false := by decide) (he : starEach [.Name y px] X.env = (false, eval (.Name y px) X.env) :: starEach [] X.env := by rfl) (hpl : (backTo pos (starEach [] X.env)).any (·.1) = false := by rfl) :
    PE X (.Call (.Name x p) [.Name y px] [] pos) (vE X.K X.mg G W rm.tg (eCallE F j)) := by
  obtain ⟨C, oe, hp, hz, hf, T⟩ := E
  refine ⟨fun pins s sg H Q I h => ?_⟩
  obtain ⟨B0, H0, B, e, S, kq⟩ := h
  obtain ⟨v, d, h1, h2, h3⟩ := S.sl.get hG
  unfold eCallE at kq
  rw [h2] at kq
  cases v with
  | none => exact h3.elim
  | some v =>
    obtain ⟨rfl, rfl⟩ := h3
    refine wpAny_Call_Name_kw (ld_glob I hg hm ?_ hdb)
    refine PySem.W.callWith_K (h₀ := X.base) I.ok.mod.kin hk (thn ((pa_cons (pe_var hN hv hd hcd) pa_nil he).run pos pins s sg H (fun vs H1 => vs = [.ref a] ∧ H1 = H) I ⟨_, h1, rfl, rfl⟩) fun us s1 ⟨vs, H1, I1, r, q⟩ => ⟨I1.kIn, ?_⟩) he hpl
    obtain ⟨rfl, rfl⟩ := q
    have sp1 : spE X.K X.mg ys rm F (a, oe) [.ref a] H1 Q (WE W sg) := by
      refine ⟨B, c, C, S.ext.s, rfl, hz, hf, T, ?_⟩
      have kq : KE X.K X.mg W sg H0 B H1 Q rm.tg (F [.str c]) := kq
      cases eF : F [.str c] with
      | bad => rw [eF] at kq; exact kq
      | ex c => rw [eF] at kq; exact fun B1 H2 a y hm => kq B1 H2 a y hm
      | ok d =>
        rw [eF] at kq
        exact fun B1 H2 v y r => kq B1 H2 v y (ret_tg r)
    have pin := I1.pin (a, oe) (List.mem_append_left _ hp)
    have pinOk : PinOk X.stack H1 s1 (a, oe) := ⟨pin.1, pin.2.1, fun hm => (List.mem_cons.mp (I1.stkSub a hm)).elim pin.2.2.1 pin.2.2.2.1, pin.2.2.2.2⟩
    have bb := hb s1 us I1.kIn (by rw [List.append_nil, ← r.length]; exact Fk.one _ _ _ _ _ sp1)
    rw [List.append_nil] at bb
    refine wpAny_call (codeAny_mono (Fk.go X.A X.stack s1 H1 ⟨us, []⟩ us _ Q _ (a, oe) hr pinOk I1.env0 bb r sp1) fun rr s2 hq => ?_)
    cases rr with
    | error e => exact passAt tk sg pins H1 s1 e s2 I1 hq
    | ok fl =>
      cases fl with
      | ret u => exact I1.after hq
      | next => exact hq.elim
      | brk => exact hq.elim
      | cont => exact hq.elim
end
end L2.VL
set_option Elab.async false
set_option linter.all false
set_option maxRecDepth 100000
set_option maxHeartbeats 4000000
namespace L2.VL
open PySem PySem.Spec PyProof.Rows
/-! ## try: body, except OddsError as e: suite -/
/-- the body of a try: where it raises, the slots are those of its start -/
def KB (K : PySem.W.Frag) (mg : Str → Option Value) (G' : List Md) (W : WX) (rm : Rm) (B0 H0 B H : Hp) (sg : St) (Dn : Ends) : R Fl → Prop
  | .ok (.nx e') => ∀ sg' B' H', Sta K G' B0 H0 sg' e' B' H' → Same B B' → Dn.nx sg' H'
  | .ok (.rt d) => ∀ B' H' v, Ext B0 H0 B' H' → RetT K H0 B' H' rm v d → Dn.rt v H'
  | .ex c => ∀ B' H' a, Ext B H B' H' → mg c = some (.ref a) → W (.ref a) none sg H'
  | .bad => False
def vB (K : PySem.W.Frag) (mg : Str → Option Value) (G G' : List Md) (W : WX) (rm : Rm) (g : List D → R Fl) : TS := fun Dn sg H =>
  ∃ B0 H0 B e, Sta K G B0 H0 sg e B H ∧ KB K mg G' W rm B0 H0 B H sg Dn (g e)
theorem KB.later {K : PySem.W.Frag} {mg : Str → Option Value} {G' : List Md} {W : WX} {rm : Rm} {B0 H0 B H B1 H1 : Hp} {sg : St} {Dn : Ends} {r : R Fl} (k : KB K mg G' W rm B0 H0 B H sg Dn r) (x : Ext B H B1 H1) : KB K mg G' W rm B0 H0 B1 H1 sg Dn r := by
  cases r with
  | bad => exact k
  | ex c => exact fun B' H' a y hm => k B' H' a (x.trans y) hm
  | ok fl =>
    cases fl with
    | nx e => exact fun sg' B' H' S s => k sg' B' H' S (x.b.trans s)
    | rt d => exact k
section
variable {X : Cx} {G G1 G' : List Md} {W : WX} {rm : Rm} {pos pos' : Pos} {a : Expr} {st : Stmt} {rest : List Stmt} {f : List D → R D} {g g1 g2 : List D → R Fl} {c : List D → R Bool} {m : Tg} {i : Nat} {x : Str}
theorem vb_expr (he : PE X a (vE X.K X.mg G W m f)) (hs : swapsWith a none pos.line X.env = pure false := by rfl) : PS X (.Expr a pos) (vB X.K X.mg G G W rm (sDrop f)) := by
  refine ps_weak (ps_expr he hs) fun Dn sg H ⟨B0, H0, B, e, S, k⟩ => ?_
  exact seq1 (P := KB X.K X.mg G W rm B0 H0 B H sg Dn) S k (fun c k => k) (fun k => k) fun B1 H1 x d x1 S1 r1 k1 => k1 sg B1 H1 S1 x1.b
theorem vb_set (he : PE X a (vE X.K X.mg G W .im f)) (hN : X.N.Nodup) (hi : X.N[i]? = some x := by rfl) (hx : Loc X.env.scope x := by first | exact Or.inl rfl | exact Or.inr rfl) (hs : swapsWith a (some (.Name x pos')) pos.line X.env = pure false := by rfl)
    (hf : X.fn x = true ∨ X.env.scope.names.lookup x = some .local := by first | exact .inl rfl | exact .inr rfl) : PS X (.Assign [.Name x pos'] a pos) (vB X.K X.mg G (G.set i .im) W rm (sAsg i f)) := by
  refine ps_weak (ps_set hN hi hx he hs hf) fun Dn sg H ⟨B0, H0, B, e, S, k⟩ => ?_
  exact seq1 (P := KB X.K X.mg (G.set i .im) W rm B0 H0 B H sg Dn) S k (fun c k => k) (fun k => k) fun B1 H1 x d x1 S1 r1 k1 => k1 _ B1 H1 (S1.set i r1 (fun z => nomatch z)) x1.b
theorem vb_if {cc : Expr} {sa sb : List Stmt} (hc : PT X cc (vT X.K X.mg G W c)) (ha : PSs X sa (vB X.K X.mg G G' W rm g1)) (hb : PSs X sb (vB X.K X.mg G G' W rm g2)) : PS X (.If cc sa sb pos) (vB X.K X.mg G G' W rm (sIf c g1 g2)) := by
  refine ps_weak (ps_if hc ha hb) fun Dn sg H ⟨B0, H0, B, e, S, k⟩ => ?_
  refine seqT (P := KB X.K X.mg G' W rm B0 H0 B H sg Dn) S k (fun c k => k) (fun k => k) fun B1 H1 b x1 S1 k1 => ?_
  cases b with
  | true => exact iteT ⟨B0, H0, B1, e, S1, KB.later k1 x1⟩
  | false => exact iteF ⟨B0, H0, B1, e, S1, KB.later k1 x1⟩
theorem vb_one (h1 : PS X st (vB X.K X.mg G G' W rm g1)) : PSs X [st] (vB X.K X.mg G G' W rm g1) := pss_one h1
end
def suite (cs : List Str) (i : Nat) (gs : List D → R Fl) (e : List D) (c : Str) : R Fl := if c ∈ cs then noX (gs (e.set i (.str c))) else .bad
def tryR (h : Str → R Fl) : R Fl → R Fl
  | .ex c => h c
  | r => r
@[simp] theorem tryR_ok (h : Str → R Fl) (fl : Fl) : tryR h (.ok fl) = .ok fl := rfl
@[simp] theorem tryR_ex (h : Str → R Fl) (c : Str) : tryR h (.ex c) = h c := rfl
@[simp] theorem tryR_bad (h : Str → R Fl) : tryR h .bad = .bad := rfl
@[simp] theorem suite_eq (cs : List Str) (i : Nat) (gs : List D → R Fl) (e : List D) (c : Str) : suite cs i gs e c = if c ∈ cs then noX (gs (e.set i (.str c))) else .bad := rfl
@[simp] def sTry (cs : List Str) (g : List D → R Fl) (i : Nat) (gs : List D → R Fl) (e : List D) : R Fl := tryR (suite cs i gs e) (g e)
section
variable {X : Cx} {G G1 G' : List Md} {G2 : Addr → Str → List Md} {Wout : WX} {rm : Rm} {pos pos' np : Pos} {x n : Str} {O : Addr} {i : Nat} {body : List Stmt} {b₀ : Stmt} {su : List Stmt} {g gs : List D → R Fl} {cs ys : List Str}
theorem vs_try (hs : X.stack = X.env :: X.outer) (hf : X.env.frame = some X.env.locals) (hN : X.N.Nodup) (hO : X.mg "OddsError" = some (.ref O)) (tk : Takes X Wout) (hT : ∀ c C, c ∈ cs → X.mg c = some (.ref C) → ExT X.K X.mg ys c C)
    (hb : ∀ (W : WX) (pn : List (Addr × Obj)) (xe : Value → Shared → Prop), Takes (X.tr pn xe) W → PSs (X.tr pn xe) body (vB X.K X.mg G G1 W rm g))
    (hsu : ∀ (a : Addr) (oe : Obj) (pn : List (Addr × Obj)) (c : Str), ExP (X.suite a ((a, oe) :: pn)) ys a c → PSs (X.suite a ((a, oe) :: pn)) (b₀ :: su) (vS X.K X.mg (G.set i (.ex a c)) (G2 a c) W0 rm gs))
    (h1 : leG G1 G' = true) (h2 : ∀ a c, leG ((G2 a c).set i .un) G' = true) (hi : X.N[i]? = some n := by rfl) (hln : X.env.kindOf n = some .local := by rfl) (hg : Gl X "OddsError" := by rfl) :
    PS X (.Try body [.ExceptHandler (some (.Name "OddsError" np)) (some n) (b₀ :: su) pos'] [] [] pos) (vS X.K X.mg G G' Wout rm (sTry cs g i gs)) := by
  let ts : Addr → Value → Option Addr → TS := fun a cls d => fun Dn sg H => ∃ c C, cls = .ref C ∧ d = none ∧ ExT X.K X.mg ys c C ∧ vS X.K X.mg (G.set i (.ex a c)) (G2 a c) W0 rm gs Dn sg H
  refine ps_weak (ps_try_as (ts := ts) (Wout := Wout) hs hf hN hi hln ⟨hg, by decide, .inl hO⟩ tk (fun W pn xe t1 _ => hb W pn xe t1) fun a oe cls d pn hz hfl => ?_) fun Dn sg H ⟨B0, H0, B, e, S, k⟩ => ?_
  · refine ⟨fun pins s sg H Dn I h => ?_⟩
    obtain ⟨c, C, rfl, rfl, T, h⟩ := h
    exact (hsu a oe pn c ⟨C, oe, List.mem_cons_self, hz, hfl, T⟩).run pins s sg H Dn I h
  · refine ⟨B0, H0, B, e, S, ?_⟩
    unfold sTry at k
    cases eg : g e with
    | bad => rw [eg] at k; exact k
    | ok fl =>
      rw [eg] at k
      cases fl with
      | nx e1 => exact fun sg' B' H' S' s' => k sg' B' H' (S'.le h1) s'
      | rt d => exact k
    | ex c =>
      rw [eg, tryR_ex, suite_eq] at k
      intro B1 H1 C x1 hC
      by_cases hc : c ∈ cs
      · rw [if_pos hc] at k
        have T := hT c C hc hC
        refine ⟨true, T.odd O hO, fun _ ea hea => ?_, fun z => nomatch z⟩
        refine ⟨c, C, rfl, rfl, T, B0, H0, B1, e.set i (.str c), (S.later x1).set i (m := .ex ea c) (v := .ref ea) ⟨rfl, rfl⟩ (fun z => nomatch z), ?_⟩
        cases er : gs (e.set i (.str c)) with
        | bad => rw [er] at k; exact k
        | ex c2 => rw [er] at k; exact k.elim
        | ok fl =>
          rw [er] at k
          cases fl with
          | nx e2 =>
            intro sg2 B2 H2 S2 s2
            refine k _ B2 H2 (Sta.le ⟨S2.ext, S2.sl.forget i none, fun j1 j2 q g1 g2 t1 t2 => ?_⟩ (h2 ea c)) (x1.b.trans s2)
            rcases get_set g1 with ⟨_, z⟩ | g1'
            · cases z
            · rcases get_set g2 with ⟨_, z⟩ | g2'
              · cases z
              · rcases get_set t1 with ⟨_, z⟩ | t1'
                · cases z
                · rcases get_set t2 with ⟨_, z⟩ | t2'
                  · cases z
                  · exact S2.dis j1 j2 q g1' g2' t1' t2'
          | rt d => exact k
      · rw [if_neg hc] at k; exact k.elim
end
end L2.VL
set_option Elab.async false
set_option linter.all false
set_option maxRecDepth 100000
set_option maxHeartbeats 4000000
namespace L2.VL
open PySem PySem.Spec PyProof.Rows
/-! ## native functions beside mirrors -/
def R.map {α β : Type} (f : α → β) : R α → R β
  | .ok a => .ok (f a)
  | .ex c => .ex c
  | .bad => .bad
@[simp] theorem R.map_ok {α β : Type} (f : α → β) (a : α) : (R.ok a).map f = .ok (f a) := rfl
@[simp] theorem R.map_ex {α β : Type} (f : α → β) (c : Str) : (R.ex c : R α).map f = .ex c := rfl
@[simp] theorem R.map_bad {α β : Type} (f : α → β) : (R.bad : R α).map f = .bad := rfl
theorem R.bind_assoc {α β γ : Type} (r : R α) (f : α → R β) (g : β → R γ) : (r.bind f).bind g = r.bind fun x => (f x).bind g := by cases r <;> rfl
theorem R.ite_bind {α β : Type} (c : Prop) [Decidable c] (a b : R α) (f : α → R β) : (if c then a else b).bind f = if c then a.bind f else b.bind f := by split <;> rfl
/-- b tells what a is, where b tells something -/
def Ref {α : Type} (a b : R α) : Prop := b = .bad ∨ a = b
theorem Ref.refl {α : Type} (a : R α) : Ref a a := .inr rfl
theorem Ref.of {α : Type} {a b : R α} (h : a = b) : Ref a b := .inr h
theorem Ref.trans {α : Type} {a b c : R α} (h : Ref a b) (k : Ref b c) : Ref a c := by
  rcases k with k | k
  · exact .inl k
  · subst k; exact h
theorem Ref.ok {α : Type} {a : R α} {x : α} (h : Ref a (.ok x)) : a = .ok x := h.elim (fun z => nomatch z) id
theorem Ref.ex {α : Type} {a : R α} {x : Str} (h : Ref a (.ex x)) : a = .ex x := h.elim (fun z => nomatch z) id
theorem Ref.map {α β : Type} {a b : R α} (f : α → β) (h : Ref a b) : Ref (a.map f) (b.map f) := by
  rcases h with h | h
  · subst h; exact .inl rfl
  · subst h; exact .inr rfl
section
variable {α β γ δ : Type}
theorem Ref.bind {a : R α} {b : R β} {f : β → α} (h : Ref a (b.map f)) {k : α → R γ} {k' : β → R δ} {g : δ → γ} (hk : ∀ x, Ref (k (f x)) ((k' x).map g)) : Ref (a.bind k) ((b.bind k').map g) := by
  cases b with
  | bad => exact .inl rfl
  | ex c => rw [h.ex]; exact .inr rfl
  | ok x => rw [h.ok]; exact hk x
theorem Ref.bind' {a : R α} {b : R β} {f : β → α} (h : Ref a (b.map f)) {k : α → R γ} {k' : β → R γ} (hk : ∀ x, Ref (k (f x)) (k' x)) : Ref (a.bind k) (b.bind k') := by
  cases b with
  | bad => exact .inl rfl
  | ex c => rw [h.ex]; exact .inr rfl
  | ok x => rw [h.ok]; exact hk x
theorem Ref.bind1 {a b : R α} (h : Ref a b) {k k' : α → R γ} (hk : ∀ x, Ref (k x) (k' x)) : Ref (a.bind k) (b.bind k') := by
  cases b with
  | bad => exact .inl rfl
  | ex c => rw [h.ex]; exact .inr rfl
  | ok x => rw [h.ok]; exact hk x
end
/-! ### patterns of environments -/
abbrev Pat := List (Option D)
def EM : Pat → List D → Prop
  | [], [] => True
  | some d :: p, x :: e => x = d ∧ EM p e
  | none :: p, _ :: e => EM p e
  | _, _ => False
def PLe : Pat → Pat → Prop
  | [], [] => True
  | some d :: q, some d' :: p => d = d' ∧ PLe q p
  | none :: q, _ :: p => PLe q p
  | _, _ => False
theorem EM.get : ∀ {p : Pat} {e : List D} {i : Nat} {d : D}, EM p e → p[i]? = some (some d) → e[i]? = some d
  | [], [], _, _, _, h => by simp at h
  | some _ :: _, x :: _, 0, _, h, g => by
    have : some _ = some (some _) := g
    cases this
    exact congrArg some h.1
  | some _ :: _, _ :: _, i + 1, _, h, g => EM.get (i := i) h.2 (by simpa using g)
  | none :: _, _ :: _, 0, _, h, g => by cases g
  | none :: p, _ :: e, i + 1, _, h, g => EM.get (p := p) (e := e) (i := i) h (by simpa using g)
theorem EM.set {d : D} : ∀ {p : Pat} {e : List D} (i : Nat), EM p e → EM (p.set i (some d)) (e.set i d)
  | [], [], _, h => h
  | some _ :: _, _ :: _, 0, h => ⟨rfl, h.2⟩
  | none :: _, _ :: _, 0, h => ⟨rfl, h⟩
  | some _ :: _, _ :: _, i + 1, h => ⟨h.1, EM.set i h.2⟩
  | none :: p, _ :: e, i + 1, h => EM.set (p := p) (e := e) i h
theorem EM.le : ∀ {q p : Pat} {e : List D}, PLe q p → EM p e → EM q e
  | [], [], [], _, _ => trivial
  | some _ :: _, some _ :: _, _ :: _, h, g => ⟨g.1.trans h.1.symm, EM.le h.2 g.2⟩
  | none :: q, some _ :: p, _ :: e, h, g => EM.le (q := q) (p := p) (e := e) h g.2
  | none :: q, none :: p, _ :: e, h, g => EM.le (q := q) (p := p) (e := e) h g
theorem EM.len : ∀ {p : Pat} {e : List D}, EM p e → e.length = p.length
  | [], [], _ => rfl
  | some _ :: _, _ :: _, h => congrArg (· + 1) h.2.len
  | none :: p, _ :: e, h => congrArg (· + 1) (EM.len (p := p) (e := e) h)
/-! ### encoders -/
abbrev eU (_ : Unit) : D := .non
abbrev eA (d : D) : D := d
abbrev eL {α : Type} (f : α → D) (l : List α) : D := .lst (l.map f)
abbrev eT {α : Type} (f : α → D) (l : List α) : D := .tup (l.map f)
abbrev e2 {α β : Type} (f : α → D) (g : β → D) (p : α × β) : D := .tup [f p.1, g p.2]
abbrev e3 {α β γ : Type} (f : α → D) (g : β → D) (h : γ → D) (p : α × β × γ) : D := .tup [f p.1, g p.2.1, h p.2.2]
abbrev e4 {α β γ δ : Type} (f : α → D) (g : β → D) (h : γ → D) (k : δ → D) (p : α × β × γ × δ) : D := .tup [f p.1, g p.2.1, h p.2.2.1, k p.2.2.2]
abbrev e5 {α β γ δ ε : Type} (f : α → D) (g : β → D) (h : γ → D) (k : δ → D) (l : ε → D) (p : α × β × γ × δ × ε) : D := .tup [f p.1, g p.2.1, h p.2.2.1, k p.2.2.2.1, l p.2.2.2.2]
abbrev h2 {α β : Type} (f : α → D) (g : β → D) (p : α × β) : D := .lst [f p.1, g p.2]
abbrev h3 {α β γ : Type} (f : α → D) (g : β → D) (h : γ → D) (p : α × β × γ) : D := .lst [f p.1, g p.2.1, h p.2.2]
abbrev h4 {α β γ δ : Type} (f : α → D) (g : β → D) (h : γ → D) (k : δ → D) (p : α × β × γ × δ) : D := .lst [f p.1, g p.2.1, h p.2.2.1, k p.2.2.2]
def eO {α : Type} (f : α → D) : Option α → D
  | none => .non
  | some x => f x
@[simp] theorem eO_none {α : Type} (f : α → D) : eO f none = .non := rfl
@[simp] theorem eO_some {α : Type} (f : α → D) (x : α) : eO f (some x) = f x := rfl
abbrev eDS {α : Type} (f : α → D) (l : List (Str × α)) : D := .dic (l.map fun p => (.inr p.1, f p.2))
/-! ### judgements -/
def SP (p : Pat) (m : List D → R D) (d : D) : Prop := ∀ e, EM p e → m e = .ok d
def SE {α : Type} (p : Pat) (m : List D → R D) (r : R α) (enc : α → D) : Prop := ∀ e, EM p e → Ref (m e) (r.map enc)
def SCp (p : Pat) (c : List D → R Bool) (b : Bool) : Prop := ∀ e, EM p e → c e = .ok b
def SC (p : Pat) (c : List D → R Bool) (r : R Bool) : Prop := ∀ e, EM p e → Ref (c e) r
def SAp (p : Pat) (fs : List D → R (List D)) (ds : List D) : Prop := ∀ e, EM p e → fs e = .ok ds
def SA {τ : Type} (p : Pat) (fs : List D → R (List D)) (r : R τ) (enc : τ → List D) : Prop := ∀ e, EM p e → Ref (fs e) (r.map enc)
def SI {α : Type} (p : Pat) (it : List D → R (List D)) (r : R (List α)) (enc : α → D) : Prop := ∀ e, EM p e → Ref (it e) (r.map (·.map enc))
def SI2 {α β : Type} (p : Pat) (it : List D → R (List (D × D))) (r : R (List (α × β))) (f : α → D) (g : β → D) : Prop := ∀ e, EM p e → Ref (it e) (r.map (·.map fun x => (f x.1, g x.2)))
def SO (p : Pat) (f : List D → R (Option Int)) (r : R (Option Int)) : Prop := ∀ e, EM p e → Ref (f e) r
inductive TF (σ ρ : Type) where
  | nx (s : σ) | rt (r : ρ)
/-- falls through -/
def SN {σ : Type} (p : Pat) (g : List D → R Fl) (s : R σ) (P : σ → Pat) : Prop :=
  ∀ e, EM p e → s = .bad ∨ (∃ c, s = .ex c ∧ g e = .ex c) ∨ ∃ y e', s = .ok y ∧ g e = .ok (.nx e') ∧ EM (P y) e'
/-- ends the def -/
def SX {ρ : Type} (p : Pat) (g : List D → R Fl) (r : R ρ) (enc : ρ → D) : Prop := ∀ e, EM p e → Ref (g e) (r.map fun x => Fl.rt (enc x))
/-- one or the other -/
def SB {σ ρ : Type} (p : Pat) (g : List D → R Fl) (r : R (TF σ ρ)) (P : σ → Pat) (enc : ρ → D) : Prop :=
  ∀ e, EM p e → r = .bad ∨ (∃ c, r = .ex c ∧ g e = .ex c) ∨ (∃ y e', r = .ok (.nx y) ∧ g e = .ok (.nx e') ∧ EM (P y) e') ∨ ∃ d, r = .ok (.rt d) ∧ g e = .ok (.rt (enc d))
section
variable {p : Pat} {α β γ δ τ σ σ' ρ : Type} {ea : α → D} {eb : β → D} {ec : γ → D}
theorem SP.se {m : List D → R D} {x : α} (h : SP p m (ea x)) : SE p m (.ok x) ea := fun e he => .inr (h e he)
theorem SCp.sc {c : List D → R Bool} {b : Bool} (h : SCp p c b) : SC p c (.ok b) := fun e he => .inr (h e he)
theorem SAp.sa {fs : List D → R (List D)} {t : τ} {enc : τ → List D} (h : SAp p fs (enc t)) : SA p fs (.ok t) enc := fun e he => .inr (h e he)
theorem SE.co {m : List D → R D} {r : R α} (h : SE p m r ea) (f : α → β) (hf : ∀ x, eb (f x) = ea x) : SE p m (r.bind fun x => .ok (f x)) eb := fun e he => by
  have := h e he
  cases r with
  | bad => exact .inl rfl
  | ex c => exact this
  | ok x => exact .inr ((this.ok).trans (by rw [← hf]; rfl))
/-! names, constants -/
theorem sp_var {i : Nat} {d : D} (h : p[i]? = some (some d) := by rfl) : SP p (eVar i) d := fun e he => by
  show ofO e[i]? = .ok d
  rw [he.get h]
  rfl
theorem sp_c {d : D} : SP p (eC d) d := fun _ _ => rfl
theorem sp_flat {f : List D → R D} {d : D} (h : SP p f d) (hd : flatD d = true := by rfl) : SP p (eFlat f) d := fun e he => by
  show (f e).bind _ = _
  rw [h e he]
  exact if_pos hd
theorem se_flat {f : List D → R D} {r : R α} (h : SE p f r ea) (hd : ∀ x, flatD (ea x) = true := by intro _; rfl) : SE p (eFlat f) r ea := fun e he => by
  have := h e he
  show Ref ((f e).bind _) _
  cases r with
  | bad => exact .inl rfl
  | ex c => rw [this.ex]; exact .inr rfl
  | ok x => rw [this.ok]; exact .inr (if_pos (hd x))
/-! one, two operands -/
theorem se_1 {f : List D → R D} {k : D → R D} {ra : R α} {h : α → R γ} (hk : ∀ x, Ref (k (ea x)) ((h x).map ec)) (ha : SE p f ra ea) : SE p (fun e => (f e).bind k) (ra.bind h) ec := fun e he => (ha e he).bind hk
theorem se_1p {f : List D → R D} {k : D → R D} {d : D} {h : R γ} (hk : Ref (k d) (h.map ec)) (ha : SP p f d) : SE p (fun e => (f e).bind k) h ec := fun e he => by
  show Ref ((f e).bind k) _
  rw [ha e he]
  exact hk
theorem sp_1 {f : List D → R D} {k : D → R D} {d d' : D} (hk : k d = .ok d') (ha : SP p f d) : SP p (fun e => (f e).bind k) d' := fun e he => by
  show (f e).bind k = _
  rw [ha e he]
  exact hk
theorem se_2 {f g : List D → R D} {k : D → D → R D} {ra : R α} {rb : R β} {h : α → β → R γ} (hk : ∀ x y, Ref (k (ea x) (eb y)) ((h x y).map ec)) (ha : SE p f ra ea) (hb : SE p g rb eb) :
    SE p (fun e => (f e).bind fun x => (g e).bind fun y => k x y) (ra.bind fun x => rb.bind fun y => h x y) ec := fun e he => (ha e he).bind fun x => (hb e he).bind fun y => hk x y
theorem se_2p {f g : List D → R D} {k : D → D → R D} {d1 d2 : D} {h : R γ} (hk : Ref (k d1 d2) (h.map ec)) (ha : SP p f d1) (hb : SP p g d2) :
    SE p (fun e => (f e).bind fun x => (g e).bind fun y => k x y) h ec := fun e he => by
  show Ref ((f e).bind _) _
  rw [ha e he]
  show Ref ((g e).bind _) _
  rw [hb e he]
  exact hk
theorem sp_2 {f g : List D → R D} {k : D → D → R D} {d1 d2 d : D} (hk : k d1 d2 = .ok d) (ha : SP p f d1) (hb : SP p g d2) : SP p (fun e => (f e).bind fun x => (g e).bind fun y => k x y) d := fun e he => by
  show (f e).bind _ = _
  rw [ha e he]
  show (g e).bind _ = _
  rw [hb e he]
  exact hk
theorem sp_op {f g : List D → R D} {k : D → D → Option D} {d1 d2 d : D} (hk : k d1 d2 = some d) (ha : SP p f d1) (hb : SP p g d2) : SP p (eOp k f g) d := sp_2 (k := fun x y => ofO (k x y)) (by rw [hk]; rfl) ha hb
theorem se_op {f g : List D → R D} {k : D → D → Option D} {ra : R α} {rb : R β} {h : α → β → R γ} (hk : ∀ x y, Ref (ofO (k (ea x) (eb y))) ((h x y).map ec)) (ha : SE p f ra ea) (hb : SE p g rb eb) : SE p (eOp k f g) (ra.bind fun x => rb.bind fun y => h x y) ec := se_2 hk ha hb
theorem se_opP {f g : List D → R D} {k : D → D → Option D} {d1 d2 : D} {h : R γ} (hk : Ref (ofO (k d1 d2)) (h.map ec)) (ha : SP p f d1) (hb : SP p g d2) : SE p (eOp k f g) h ec := se_2p hk ha hb
end
/-! ### natives of operations -/
def mulR (x y : Int) : R Int := if IntMulOk x y then .ok (x * y) else .bad
def divR (x y : Int) : R Int := if CDivP x y then .ok (x / y) else .bad
def modR (x y : Int) : R Int := if 0 < y then .ok (x % y) else .bad
def powR (x y : Int) : R Int := if CPow x y then .ok (x ^ y.toNat) else .bad
def shlR (x y : Int) : R Int := if CShl x y then .ok (x * 2 ^ y.toNat) else .bad
def shrR (x y : Int) : R Int := if 0 ≤ y then .ok (x / 2 ^ y.toNat) else .bad
def catS (x y : Str) : R Str := if x.length + y.length ≤ sizeLine then .ok (x ++ y) else .bad
theorem ref_ite {α β : Type} {c : Prop} [Decidable c] {a : α} {f : α → β} : Ref (ofO (if c then some (f a) else none)) ((if c then R.ok a else R.bad).map f) := by
  by_cases h : c
  · rw [if_pos h, if_pos h]; exact .inr rfl
  · rw [if_neg h, if_neg h]; exact .inl rfl
theorem k_mul (x y : Int) : Ref (ofO (gMul (.int x) (.int y))) ((mulR x y).map D.int) := ref_ite
theorem k_fdiv (x y : Int) : Ref (ofO (gFdiv (.int x) (.int y))) ((divR x y).map D.int) := ref_ite
theorem k_mod (x y : Int) : Ref (ofO (gMod (.int x) (.int y))) ((modR x y).map D.int) := ref_ite
theorem k_pow (x y : Int) : Ref (ofO (gPow (.int x) (.int y))) ((powR x y).map D.int) := ref_ite
theorem k_shl (x y : Int) : Ref (ofO (gShl (.int x) (.int y))) ((shlR x y).map D.int) := ref_ite
theorem k_shr (x y : Int) : Ref (ofO (gShr (.int x) (.int y))) ((shrR x y).map D.int) := ref_ite
theorem k_catS (x y : Str) : Ref (ofO (gAdd (.str x) (.str y))) ((catS x y).map D.str) := ref_ite
theorem g_mulR (x c : Int) (h1 : -(2 ^ 64) < c := by decide) (h2 : c < 2 ^ 64 := by decide) : gMul (.int x) (.int c) = some (.int (x * c)) := if_pos (mulOk_right h1 h2)
theorem g_mulL (c x : Int) (h1 : -(2 ^ 64) < c := by decide) (h2 : c < 2 ^ 64 := by decide) : gMul (.int c) (.int x) = some (.int (c * x)) := if_pos (mulOk_left h1 h2)
theorem g_divC (x c : Int) (h1 : 0 < c := by decide) (h2 : c < 1073741824 := by decide) : gFdiv (.int x) (.int c) = some (.int (x / c)) := if_pos (divP_small h1 h2)
theorem g_divB (x c : Int) (h1 : 0 < c := by decide) (h2 : c.natAbs < 2 ^ 9000 := by decide +kernel) : gFdiv (.int x) (.int c) = some (.int (x / c)) := if_pos (divP_of h1 h2)
theorem g_modC (x c : Int) (h1 : 0 < c := by decide) : gMod (.int x) (.int c) = some (.int (x % c)) := if_pos h1
theorem g_powC (x y z : Int) (h1 : CPow x y := by decide) (h2 : x ^ y.toNat = z := by decide +kernel) : gPow (.int x) (.int y) = some (.int z) := by rw [gPow_int, if_pos h1, h2]
/-! ### plain data: == is equality -/
def Inj {α : Type} (f : α → D) : Prop := ∀ x y, f x = f y → x = y
structure Flt {α : Type} (f : α → D) : Prop where
  fl : ∀ x, flatD (f x) = true
  eq : ∀ x y, eqFl (f x) (f y) = true ↔ x = y
theorem flt_int : Flt D.int := ⟨fun _ => rfl, fun x y => by simp [eqFl]⟩
theorem flt_str : Flt D.str := ⟨fun _ => rfl, fun x y => by simp [eqFl]⟩
theorem flt_bl : Flt D.bl := ⟨fun _ => rfl, fun x y => by simp [eqFl]⟩
section
variable {α β γ δ ε : Type} {f : α → D} {g : β → D} {h : γ → D}
theorem Flt.all (F : Flt f) (l : List α) : (l.map f).all flatD = true := by
  rw [List.all_eq_true]
  intro x hx
  obtain ⟨y, _, rfl⟩ := List.mem_map.mp hx
  exact F.fl y
theorem Flt.inDs [DecidableEq α] (F : Flt f) (x : α) (l : List α) : inDs (f x) (l.map f) = some (decide (x ∈ l)) := by
  unfold L2.VL.inDs
  rw [F.fl, F.all, Bool.and_self, if_pos rfl]
  congr 1
  rw [Bool.eq_iff_iff, List.any_eq_true, decide_eq_true_iff]
  constructor
  · rintro ⟨y, hy, e⟩
    obtain ⟨z, hz, rfl⟩ := List.mem_map.mp hy
    rw [F.eq] at e
    exact e ▸ hz
  · intro hx
    exact ⟨f x, List.mem_map.mpr ⟨x, hx, rfl⟩, (F.eq x x).mpr rfl⟩
theorem g_inL [DecidableEq α] (F : Flt f) (x : α) (l : List α) : gIn (f x) (.lst (l.map f)) = some (.bl (decide (x ∈ l))) := by rw [gIn_lst, F.inDs]; rfl
theorem g_inT [DecidableEq α] (F : Flt f) (x : α) (l : List α) : gIn (f x) (.tup (l.map f)) = some (.bl (decide (x ∈ l))) := by rw [gIn_tup, F.inDs]; rfl
theorem g_ninL [DecidableEq α] (F : Flt f) (x : α) (l : List α) : gNotIn (f x) (.lst (l.map f)) = some (.bl (!decide (x ∈ l))) := by rw [gNotIn_lst, F.inDs]; rfl
theorem g_ninT [DecidableEq α] (F : Flt f) (x : α) (l : List α) : gNotIn (f x) (.tup (l.map f)) = some (.bl (!decide (x ∈ l))) := by rw [gNotIn_tup, F.inDs]; rfl
theorem inj_int : Inj D.int := fun x y e => by cases e; rfl
theorem inj_str : Inj D.str := fun x y e => by cases e; rfl
theorem inj_bl : Inj D.bl := fun x y e => by cases e; rfl
theorem inj_A : Inj eA := fun x y e => e
theorem inj_map {α : Type} {f : α → D} (F : Inj f) : ∀ xs ys : List α, xs.map f = ys.map f → xs = ys
  | [], [], _ => rfl
  | x :: xs, y :: ys, h => by
    rw [List.map_cons, List.map_cons, List.cons.injEq] at h
    rw [F x y h.1, inj_map F xs ys h.2]
  | [], _ :: _, h => by cases h
  | _ :: _, [], h => by cases h
theorem inj_L (F : Inj f) : Inj (eL f) := fun x y e => inj_map F x y (by injection e)
theorem inj_T (F : Inj f) : Inj (eT f) := fun x y e => inj_map F x y (by injection e)
theorem inj_2 (F : Inj f) (G : Inj g) : Inj (e2 f g) := fun x y e => by
  obtain ⟨x1, x2⟩ := x
  obtain ⟨y1, y2⟩ := y
  injection e with e
  injection e with a e
  injection e with b e
  rw [show x1 = y1 from F _ _ a, show x2 = y2 from G _ _ b]
theorem inj_3 {h : γ → D} (F : Inj f) (G : Inj g) (H : Inj h) : Inj (e3 f g h) := fun x y e => by
  obtain ⟨x1, x2, x3⟩ := x
  obtain ⟨y1, y2, y3⟩ := y
  injection e with e
  injection e with a e
  injection e with b e
  injection e with c e
  rw [show x1 = y1 from F _ _ a, show x2 = y2 from G _ _ b, show x3 = y3 from H _ _ c]
theorem inj_4 {h : γ → D} {k : δ → D} (F : Inj f) (G : Inj g) (H : Inj h) (K : Inj k) : Inj (e4 f g h k) := fun x y e => by
  obtain ⟨x1, x2, x3, x4⟩ := x
  obtain ⟨y1, y2, y3, y4⟩ := y
  injection e with e
  injection e with a e
  injection e with b e
  injection e with c e
  injection e with d e
  rw [show x1 = y1 from F _ _ a, show x2 = y2 from G _ _ b, show x3 = y3 from H _ _ c, show x4 = y4 from K _ _ d]
theorem inj_5 {h : γ → D} {k : δ → D} {l : ε → D} (F : Inj f) (G : Inj g) (H : Inj h) (K : Inj k) (L : Inj l) : Inj (e5 f g h k l) := fun x y e => by
  obtain ⟨x1, x2, x3, x4, x5⟩ := x
  obtain ⟨y1, y2, y3, y4, y5⟩ := y
  injection e with e
  injection e with a e
  injection e with b e
  injection e with c e
  injection e with d e
  injection e with d' e
  rw [show x1 = y1 from F _ _ a, show x2 = y2 from G _ _ b, show x3 = y3 from H _ _ c, show x4 = y4 from K _ _ d, show x5 = y5 from L _ _ d']
/-- == of nested data -/
def eqR [DecidableEq α] (f : α → D) (x y : α) : R Bool := if plD 20 (f x) && plD 20 (f y) then .ok (decide (x = y)) else .bad
theorem eqD_inj [DecidableEq α] (F : Inj f) {x y : α} (h : (plD 20 (f x) && plD 20 (f y)) = true) : eqD (f x) (f y) = some (decide (x = y)) := by
  rw [Bool.and_eq_true] at h
  rw [eqD_py h.1 h.2]
  congr 1
  rw [Bool.eq_iff_iff, decide_eq_true_iff, pl_eq 20 _ _ h.1 h.2]
  exact ⟨F x y, fun e => by rw [e]⟩
theorem k_eq [DecidableEq α] (F : Inj f) (x y : α) : Ref (ofO (gEq (f x) (f y))) ((eqR f x y).map D.bl) := by
  unfold eqR gEq
  by_cases h : (plD 20 (f x) && plD 20 (f y)) = true
  · rw [if_pos h, eqD_inj F h]; exact .inr rfl
  · rw [if_neg h]; exact .inl rfl
def neR [DecidableEq α] (f : α → D) (x y : α) : R Bool := if plD 20 (f x) && plD 20 (f y) then .ok (!decide (x = y)) else .bad
theorem k_ne [DecidableEq α] (F : Inj f) (x y : α) : Ref (ofO (gNe (f x) (f y))) ((neR f x y).map D.bl) := by
  unfold neR gNe
  by_cases h : (plD 20 (f x) && plD 20 (f y)) = true
  · rw [if_pos h, eqD_inj F h]; exact .inr rfl
  · rw [if_neg h]; exact .inl rfl
theorem g_neI (i j : Int) : gNe (.int i) (.int j) = some (.bl (!decide (i = j))) := rfl
theorem g_neS (i j : Str) : gNe (.str i) (.str j) = some (.bl (!decide (i = j))) := rfl
theorem g_neB (i j : Bool) : gNe (.bl i) (.bl j) = some (.bl (!decide (i = j))) := rfl
/-! ### is None -/
theorem g_isO (hf : ∀ x, isNonD (f x) = false) (o : Option α) : gIs (eO f o) .non = some (.bl o.isNone) := by
  cases o with
  | none => rfl
  | some x =>
    have : ∀ d, isNonD d = false → gIs d .non = some (.bl false) := by intro d h; cases d <;> first | rfl | cases h
    exact this _ (hf x)
theorem g_isntO (hf : ∀ x, isNonD (f x) = false) (o : Option α) : gIsnt (eO f o) .non = some (.bl o.isSome) := by
  cases o with
  | none => rfl
  | some x =>
    have : ∀ d, isNonD d = false → gIsnt d .non = some (.bl true) := by intro d h; cases d <;> first | rfl | cases h
    exact this _ (hf x)
end
/-! ### bools, tests -/
section
variable {p : Pat} {α β γ δ τ σ σ' ρ : Type} {ea : α → D} {eb : β → D} {ec : γ → D} {f g : List D → R D} {c1 c2 : List D → R Bool}
theorem sp_not {b : Bool} (h : SP p f (.bl b)) : SP p (eNot f) (.bl (!b)) := sp_1 (k := fun d => (asB d).bind fun b => .ok (.bl (!b))) rfl h
theorem se_not {r : R Bool} (h : SE p f r D.bl) : SE p (eNot f) (r.bind fun b => .ok (!b)) D.bl := se_1 (k := fun d => (asB d).bind fun b => .ok (.bl (!b))) (fun _ => .inr rfl) h
theorem sp_and {a b : Bool} (ha : SP p f (.bl a)) (hb : SP p g (.bl b)) : SP p (eAnd f g) (.bl (a && b)) := fun e he => by
  show (f e).bind _ = _
  rw [ha e he]
  cases a with
  | true => exact hb e he
  | false => rfl
theorem sp_or {a b : Bool} (ha : SP p f (.bl a)) (hb : SP p g (.bl b)) : SP p (eOr f g) (.bl (a || b)) := fun e he => by
  show (f e).bind _ = _
  rw [ha e he]
  cases a with
  | true => rfl
  | false => exact hb e he
theorem se_and {ra rb : R Bool} (ha : SE p f ra D.bl) (hb : SE p g rb D.bl) : SE p (eAnd f g) (ra.bind fun a => if a then rb else .ok false) D.bl := fun e he => (ha e he).bind fun a => by
  cases a with
  | true => exact hb e he
  | false => exact .inr rfl
theorem se_or {ra rb : R Bool} (ha : SE p f ra D.bl) (hb : SE p g rb D.bl) : SE p (eOr f g) (ra.bind fun a => if a then .ok true else rb) D.bl := fun e he => (ha e he).bind fun a => by
  cases a with
  | true => exact .inr rfl
  | false => exact hb e he
theorem sc_val {b : Bool} (h : SP p f (.bl b)) : SCp p (tVal f) b := fun e he => by
  show (f e).bind asB = _
  rw [h e he]
  rfl
theorem sc_valE {r : R Bool} (h : SE p f r D.bl) : SC p (tVal f) r := fun e he => by
  have := h e he
  show Ref ((f e).bind asB) _
  cases r with
  | bad => exact .inl rfl
  | ex c => rw [this.ex]; exact .inr rfl
  | ok b => rw [this.ok]; exact .inr rfl
theorem sc_not {b : Bool} (h : SCp p c1 b) : SCp p (tNotB c1) (!b) := fun e he => by
  show (c1 e).bind _ = _
  rw [h e he]
  rfl
theorem sc_notE {r : R Bool} (h : SC p c1 r) : SC p (tNotB c1) (r.bind fun b => .ok (!b)) := fun e he => (h e he).bind1 fun _ => .inr rfl
theorem sc_and {a b : Bool} (ha : SCp p c1 a) (hb : SCp p c2 b) : SCp p (tAndB c1 c2) (a && b) := fun e he => by
  show (c1 e).bind _ = _
  rw [ha e he]
  cases a with
  | true => exact hb e he
  | false => rfl
theorem sc_or {a b : Bool} (ha : SCp p c1 a) (hb : SCp p c2 b) : SCp p (tOrB c1 c2) (a || b) := fun e he => by
  show (c1 e).bind _ = _
  rw [ha e he]
  cases a with
  | true => rfl
  | false => exact hb e he
theorem sc_andE {ra rb : R Bool} (ha : SC p c1 ra) (hb : SC p c2 rb) : SC p (tAndB c1 c2) (ra.bind fun a => if a then rb else .ok false) := fun e he => (ha e he).bind1 fun a => by
  cases a with
  | true => exact hb e he
  | false => exact .inr rfl
theorem sc_orE {ra rb : R Bool} (ha : SC p c1 ra) (hb : SC p c2 rb) : SC p (tOrB c1 c2) (ra.bind fun a => if a then .ok true else rb) := fun e he => (ha e he).bind1 fun a => by
  cases a with
  | true => exact .inr rfl
  | false => exact hb e he
theorem sc_true : SCp p tTrue true := fun _ _ => rfl
theorem se_if {rc : R Bool} {r1 r2 : R α} (hc : SC p c1 rc) (h1 : SE p f r1 ea) (h2 : SE p g r2 ea) : SE p (eIf c1 f g) (rc.bind fun b => if b then r1 else r2) ea := fun e he => by
  have := hc e he
  show Ref ((c1 e).bind _) _
  cases rc with
  | bad => exact .inl rfl
  | ex c => rw [this.ex]; exact .inr rfl
  | ok b =>
    rw [this.ok]
    cases b with
    | true => exact h1 e he
    | false => exact h2 e he
theorem sp_if {b : Bool} {x y : α} (hc : SCp p c1 b) (h1 : SP p f (ea x)) (h2 : SP p g (ea y)) : SP p (eIf c1 f g) (ea (if b then x else y)) := fun e he => by
  show (c1 e).bind _ = _
  rw [hc e he]
  cases b with
  | true => exact h1 e he
  | false => exact h2 e he
/-! chains a < b < c -/
theorem sp_chain {k k' : D → D → Option D} {h : List D → R D} {x y z : D} {b b' : Bool} (hk : k x y = some (.bl b)) (hk' : k' y z = some (.bl b')) (ha : SP p f x) (hb : SP p g y) (hc : SP p h z) : SP p (eChain k k' f g h) (.bl (b && b')) := fun e he => by
  show (f e).bind _ = _
  rw [ha e he]
  show (g e).bind _ = _
  rw [hb e he]
  show (ofO (k x y)).bind _ = _
  rw [hk]
  cases b with
  | true =>
    show (h e).bind _ = _
    rw [hc e he]
    show ofO (k' y z) = _
    rw [hk']
    rfl
  | false => rfl
/-! arguments -/
theorem sa_nil : SAp p aNil [] := fun _ _ => rfl
theorem sa_cons {fs : List D → R (List D)} {d : D} {ds : List D} (h : SP p f d) (hs : SAp p fs ds) : SAp p (aCons f fs) (d :: ds) := fun e he => by
  show (f e).bind _ = _
  rw [h e he]
  show (fs e).bind _ = _
  rw [hs e he]
  rfl
theorem sa_nilE : SA p aNil (.ok ()) (fun _ => []) := fun _ _ => .inr rfl
theorem sa_consE {fs : List D → R (List D)} {r : R α} {rs : R τ} {es : τ → List D} (h : SE p f r ea) (hs : SA p fs rs es) : SA p (aCons f fs) (r.bind fun x => rs.bind fun xs => .ok (x, xs)) (fun t => ea t.1 :: es t.2) := fun e he => by
  refine (h e he).bind fun x => ?_
  exact (hs e he).bind fun xs => .inr rfl
theorem se_call {fs : List D → R (List D)} {M : List D → R D} {ds : List D} {T : R α} (hs : SAp p fs ds) (h : Ref (M ds) (T.map ea)) : SE p (eCall M fs) T ea := fun e he => by
  show Ref ((fs e).bind M) _
  rw [hs e he]
  exact h
theorem se_callE {fs : List D → R (List D)} {M : List D → R D} {rs : R τ} {es : τ → List D} {T : τ → R α} (hs : SA p fs rs es) (h : ∀ t, Ref (M (es t)) ((T t).map ea)) : SE p (eCall M fs) (rs.bind T) ea := fun e he => (hs e he).bind h
theorem sp_b {fs : List D → R (List D)} {k : List D → Option D} {ds : List D} {d : D} (hs : SAp p fs ds) (h : k ds = some d) : SP p (eB k fs) d := fun e he => by
  show (fs e).bind _ = _
  rw [hs e he]
  show ofO (k ds) = _
  rw [h]
  rfl
theorem se_b {fs : List D → R (List D)} {k : List D → Option D} {ds : List D} {T : R α} (hs : SAp p fs ds) (h : Ref (ofO (k ds)) (T.map ea)) : SE p (eB k fs) T ea := fun e he => by
  show Ref ((fs e).bind _) _
  rw [hs e he]
  exact h
theorem se_bE {fs : List D → R (List D)} {k : List D → Option D} {rs : R τ} {es : τ → List D} {T : τ → R α} (hs : SA p fs rs es) (h : ∀ t, Ref (ofO (k (es t))) ((T t).map ea)) : SE p (eB k fs) (rs.bind T) ea := fun e he => (hs e he).bind h
theorem sp_tup {fs : List D → R (List D)} {ds : List D} (hs : SAp p fs ds) (h : ds.length ≤ sizeLine := by exact of_decide_eq_true rfl) : SP p (eTup fs) (.tup ds) := fun e he => by
  show (fs e).bind _ = _
  rw [hs e he]
  exact if_pos h
theorem sp_lst {fs : List D → R (List D)} {ds : List D} (hs : SAp p fs ds) (h : ds.length ≤ sizeLine := by exact of_decide_eq_true rfl) : SP p (eLst fs) (.lst ds) := fun e he => by
  show (fs e).bind _ = _
  rw [hs e he]
  exact if_pos h
theorem se_tup {fs : List D → R (List D)} {rs : R τ} {es : τ → List D} {T : τ → α} (hs : SA p fs rs es) (h : ∀ t, D.tup (es t) = ea (T t)) (hl : ∀ t, (es t).length ≤ sizeLine := by intro _; exact of_decide_eq_true rfl) : SE p (eTup fs) (rs.bind fun t => .ok (T t)) ea := fun e he => by
  refine (hs e he).bind fun t => ?_
  show Ref (if (es t).length ≤ sizeLine then _ else _) _
  rw [if_pos (hl t), h]
  exact .inr rfl
theorem se_lst {fs : List D → R (List D)} {rs : R τ} {es : τ → List D} {T : τ → α} (hs : SA p fs rs es) (h : ∀ t, D.lst (es t) = ea (T t)) (hl : ∀ t, (es t).length ≤ sizeLine := by intro _; exact of_decide_eq_true rfl) : SE p (eLst fs) (rs.bind fun t => .ok (T t)) ea := fun e he => by
  refine (hs e he).bind fun t => ?_
  show Ref (if (es t).length ≤ sizeLine then _ else _) _
  rw [if_pos (hl t), h]
  exact .inr rfl
end
end L2.VL
set_option Elab.async false
set_option linter.all false
set_option maxRecDepth 100000
set_option maxHeartbeats 4000000
namespace L2.VL
open PySem PySem.Spec PyProof.Rows
section
variable {p : Pat} {α β γ δ τ σ σ' ρ : Type} {ea : α → D} {eb : β → D} {ec : γ → D} {f g : List D → R D} {c1 c2 : List D → R Bool}
/-! ### items -/
theorem atI_map {α β : Type} (f : α → β) (l : List α) (k : Int) : atI (l.map f) k = (atI l k).map f := by
  unfold atI
  rw [List.length_map]
  cases ixN l.length k with
  | none => rfl
  | some j => exact List.getElem?_map
def atR {α : Type} (l : List α) (k : Int) : R α := ofO (atI l k)
def atSR (z : Str) (k : Int) : R Str := if z.length ≤ sizeLine then ofO ((atI z.cps.toList k).map fun c => ⟨#[c]⟩) else .bad
theorem ofO_map {α β : Type} (f : α → β) (o : Option α) : ofO (o.map f) = (ofO o).map f := by cases o <;> rfl
theorem k_atL (l : List α) (k : Int) : Ref (atD (.lst (l.map ea)) (.int k)) ((atR l k).map ea) := .inr (by rw [atD_lst, atI_map, ofO_map]; rfl)
theorem k_atT (l : List α) (k : Int) : Ref (atD (.tup (l.map ea)) (.int k)) ((atR l k).map ea) := .inr (by rw [atD_tup, atI_map, ofO_map]; rfl)
theorem k_atS (z : Str) (k : Int) : Ref (atD (.str z) (.int k)) ((atSR z k).map D.str) := by
  rw [atD_str]
  unfold atSR
  by_cases h : z.length ≤ sizeLine
  · rw [if_pos h, if_pos h]
    cases atI z.cps.toList k <;> exact .inr rfl
  · rw [if_neg h, if_neg h]; exact .inl rfl
theorem se_ixP {d1 d2 : D} {h : R γ} (hk : Ref (atD d1 d2) (h.map ec)) (ha : SP p f d1) (hb : SP p g d2) : SE p (eIx f g) h ec := se_2p hk ha hb
theorem se_ix {ra : R α} {rb : R β} {h : α → β → R γ} (hk : ∀ x y, Ref (atD (ea x) (eb y)) ((h x y).map ec)) (ha : SE p f ra ea) (hb : SE p g rb eb) : SE p (eIx f g) (ra.bind fun x => rb.bind fun y => h x y) ec := se_2 hk ha hb
theorem sp_ix {d1 d2 d : D} (hk : atD d1 d2 = .ok d) (ha : SP p f d1) (hb : SP p g d2) : SP p (eIx f g) d := sp_2 hk ha hb
/-! ### slices -/
theorem so_no : SO p pNo (.ok none) := fun _ _ => .inr rfl
theorem so_at {r : R Int} (h : SE p f r D.int) : SO p (pAt f) (r.bind fun i => .ok (some i)) := fun e he => (h e he).bind' fun x => .inr rfl
theorem so_atP {i : Int} (h : SP p f (.int i)) : SO p (pAt f) (.ok (some i)) := fun e he => by
  show Ref ((f e).bind _) _
  rw [h e he]
  exact .inr rfl
theorem cutL_map {α β : Type} (f : α → β) (l : List α) (lo hi : Option Int) : cutL (l.map f) lo hi = (cutL l lo hi).map f := by
  unfold cutL
  rw [List.length_map, List.map_take, List.map_drop]
theorem se_slL {m : Tg} {pl ph : List D → R (Option Int)} {ra : R (List α)} {r1 r2 : R (Option Int)} (ha : SE p f ra (eL ea)) (h1 : SO p pl r1) (h2 : SO p ph r2) (hc : ∀ l : List α, cnOk m (l.map ea) = true) :
    SE p (eSlL m f pl ph) (ra.bind fun l => r1.bind fun lo => r2.bind fun hi => .ok (cutL l lo hi)) (eL ea) := fun e he => by
  refine (ha e he).bind fun l => ?_
  have g1 := h1 e he
  have g2 := h2 e he
  cases r1 with
  | bad => exact .inl rfl
  | ex c => rw [g1.ex]; exact .inr rfl
  | ok lo =>
    rw [g1.ok]
    cases r2 with
    | bad => exact .inl rfl
    | ex c => rw [R.bind_ok, g2.ex]; exact .inr rfl
    | ok hi =>
      rw [R.bind_ok, g2.ok, R.bind_ok, slD_lst, if_pos (hc l), cutL_map]
      exact .inr rfl
def cutSR (z : Str) (lo hi : Option Int) : R Str := if z.length ≤ sizeLine then .ok (cutS z lo hi) else .bad
theorem se_slS {pl ph : List D → R (Option Int)} {ra : R Str} {r1 r2 : R (Option Int)} (ha : SE p f ra D.str) (h1 : SO p pl r1) (h2 : SO p ph r2) :
    SE p (eSlS f pl ph) (ra.bind fun l => r1.bind fun lo => r2.bind fun hi => cutSR l lo hi) D.str := fun e he => by
  refine (ha e he).bind fun l => ?_
  have g1 := h1 e he
  have g2 := h2 e he
  cases r1 with
  | bad => exact .inl rfl
  | ex c => rw [g1.ex]; exact .inr rfl
  | ok lo =>
    rw [g1.ok]
    cases r2 with
    | bad => exact .inl rfl
    | ex c => rw [R.bind_ok, g2.ex]; exact .inr rfl
    | ok hi =>
      rw [R.bind_ok, g2.ok, R.bind_ok, slS_str]
      show Ref _ (R.map _ (cutSR l lo hi))
      unfold cutSR
      by_cases h : l.length ≤ sizeLine
      · rw [if_pos h, if_pos h]; exact .inr rfl
      · rw [if_neg h, if_neg h]; exact .inl rfl
/-! contents fit -/
theorem cn_im (ds : List D) : cnOk .im ds = true := rfl
theorem cn_fr (ds : List D) : cnOk .fr ds = true := rfl
theorem cn_oc (ds : List D) : cnOk .oc ds = true := rfl
theorem cn_flt (F : Flt ea) (m : Tg) (l : List α) : cnOk m (l.map ea) = true := by
  unfold cnOk
  rw [F.all, Bool.or_true]
/-! ### list(..), tuple(..) -/
theorem sp_asLL {m : Tg} {l : List α} (ha : SP p f (eL ea l)) (hc : cnOk m (l.map ea) = true) : SP p (eAsL m f) (eL ea l) := sp_1 (k := asL m) (show asL m (eL ea l) = _ from if_pos hc) ha
theorem sp_asLT {m : Tg} {l : List α} (ha : SP p f (eT ea l)) (hc : cnOk m (l.map ea) = true) : SP p (eAsL m f) (eL ea l) := sp_1 (k := asL m) (show asL m (eT ea l) = _ from if_pos hc) ha
theorem sp_asT {m : Tg} {l : List α} (ha : SP p f (eL ea l)) (hc : cnOk m (l.map ea) = true) : SP p (eAsT m f) (eT ea l) := sp_1 (k := asT m) (show asT m (eL ea l) = _ from if_pos hc) ha
theorem se_asLL {m : Tg} {r : R (List α)} (ha : SE p f r (eL ea)) (hc : ∀ l : List α, cnOk m (l.map ea) = true) : SE p (eAsL m f) r (eL ea) := fun e he => by
  have g := ha e he
  show Ref ((f e).bind _) _
  cases r with
  | bad => exact .inl rfl
  | ex c => rw [g.ex]; exact .inr rfl
  | ok l => rw [g.ok]; exact .inr (if_pos (hc l))
theorem se_asLT {m : Tg} {r : R (List α)} (ha : SE p f r (eT ea)) (hc : ∀ l : List α, cnOk m (l.map ea) = true) : SE p (eAsL m f) r (eL ea) := fun e he => by
  have g := ha e he
  show Ref ((f e).bind _) _
  cases r with
  | bad => exact .inl rfl
  | ex c => rw [g.ex]; exact .inr rfl
  | ok l => rw [g.ok]; exact .inr (if_pos (hc l))
theorem se_asT {m : Tg} {r : R (List α)} (ha : SE p f r (eL ea)) (hc : ∀ l : List α, cnOk m (l.map ea) = true) : SE p (eAsT m f) r (eT ea) := fun e he => by
  have g := ha e he
  show Ref ((f e).bind _) _
  cases r with
  | bad => exact .inl rfl
  | ex c => rw [g.ex]; exact .inr rfl
  | ok l => rw [g.ok]; exact .inr (if_pos (hc l))
/-! ### + and * of lists and tuples -/
def catR {α : Type} (a b : List α) : R (List α) := if a.length + b.length ≤ sizeLine then .ok (a ++ b) else .bad
theorem ref_iteR {α β : Type} {c : Prop} [Decidable c] {a : α} {b : β} {f : α → β} (h : b = f a) : Ref (if c then R.ok b else R.bad) ((if c then R.ok a else R.bad).map f) := by
  subst h
  by_cases h : c
  · rw [if_pos h, if_pos h]; exact .inr rfl
  · rw [if_neg h, if_neg h]; exact .inl rfl
theorem k_catL (a b : List α) : Ref (catL (eL ea a) (eL ea b)) ((catR a b).map (eL ea)) := by
  show Ref (if (a.map ea).length + (b.map ea).length ≤ sizeLine then _ else _) _
  rw [List.length_map, List.length_map]
  exact ref_iteR (by rw [eL, List.map_append])
theorem k_catT (a b : List α) : Ref (catT (eT ea a) (eT ea b)) ((catR a b).map (eT ea)) := by
  show Ref (if (a.map ea).length + (b.map ea).length ≤ sizeLine then _ else _) _
  rw [List.length_map, List.length_map]
  exact ref_iteR (by rw [eT, List.map_append])
theorem se_catL {ra rb : R (List α)} (ha : SE p f ra (eL ea)) (hb : SE p g rb (eL ea)) : SE p (eCatL f g) (ra.bind fun x => rb.bind fun y => catR x y) (eL ea) := se_2 (fun x y => k_catL x y) ha hb
theorem se_catT {ra rb : R (List α)} (ha : SE p f ra (eT ea)) (hb : SE p g rb (eT ea)) : SE p (eCatT f g) (ra.bind fun x => rb.bind fun y => catR x y) (eT ea) := se_2 (fun x y => k_catT x y) ha hb
def mulLR {α : Type} (a : List α) (k : Int) : R (List α) := if -(2 ^ 63) ≤ k ∧ k < 2 ^ 63 ∧ a.length * k.toNat ≤ sizeLine then .ok (List.replicate k.toNat a).flatten else .bad
theorem k_mulL (a : List α) (k : Int) : Ref (mulL (eL ea a) (.int k)) ((mulLR a k).map (eL ea)) := by
  show Ref (mulL (.lst (a.map ea)) (.int k)) _
  rw [mulL_lst, List.length_map]
  exact ref_iteR (by rw [eL, List.map_flatten, List.map_replicate])
theorem se_mulL {ra : R (List α)} {rb : R Int} (ha : SE p f ra (eL ea)) (hb : SE p g rb D.int) : SE p (eMulL f g) (ra.bind fun x => rb.bind fun y => mulLR x y) (eL ea) := se_2 (fun x y => k_mulL x y) ha hb
/-! ### built-ins -/
theorem g_lenL (l : List α) : gLen [eL ea l] = some (.int l.length) := by show some (D.int ((l.map ea).length : Int)) = _; rw [List.length_map]
theorem g_lenT (l : List α) : gLen [eT ea l] = some (.int l.length) := by show some (D.int ((l.map ea).length : Int)) = _; rw [List.length_map]
def lenS (z : Str) : R Int := if z.length ≤ sizeLine then .ok z.length else .bad
theorem k_lenS (z : Str) : Ref (ofO (gLen [.str z])) ((lenS z).map D.int) := ref_ite (f := D.int) (a := (z.length : Int))
theorem g_sumL (l : List Int) : gSum [eL D.int l] = some (.int l.sum) := by show (asInts (l.map D.int)).map _ = _; rw [asInts_map]; rfl
def maxR (l : List Int) : R Int := ofO l.max?
def minR (l : List Int) : R Int := ofO l.min?
theorem k_maxL (l : List Int) : Ref (ofO (gMax [eL D.int l])) ((maxR l).map D.int) := .inr (by show ofO ((asInts (l.map D.int)).bind _) = _; rw [asInts_map]; show ofO (l.max?.map D.int) = _; rw [ofO_map]; rfl)
theorem k_minL (l : List Int) : Ref (ofO (gMin [eL D.int l])) ((minR l).map D.int) := .inr (by show ofO ((asInts (l.map D.int)).bind _) = _; rw [asInts_map]; show ofO (l.min?.map D.int) = _; rw [ofO_map]; rfl)
theorem g_max2 (i j : Int) : gMax [.int i, .int j] = some (.int (if j > i then j else i)) := rfl
theorem g_min2 (i j : Int) : gMin [.int i, .int j] = some (.int (if j < i then j else i)) := rfl
/-! isinstance -/
theorem sp_isi {T : String} {d : D} {b : Bool} (h : isiD T d = some b) (ha : SP p f d) : SP p (eIsi T f) (.bl b) := sp_1 (k := fun d => ofO ((isiD T d).map .bl)) (by rw [h]; rfl) ha
def isiR (T : String) (d : D) : R Bool := ofO (isiD T d)
theorem se_isi {T : String} {r : R α} (ha : SE p f r ea) : SE p (eIsi T f) (r.bind fun x => isiR T (ea x)) D.bl := se_1 (k := fun d => ofO ((isiD T d).map .bl)) (fun x => .inr (by unfold isiR; rw [ofO_map])) ha
theorem se_isiP {T : String} {d : D} (ha : SP p f d) : SE p (eIsi T f) (isiR T d) D.bl := se_1p (k := fun d => ofO ((isiD T d).map .bl)) (.inr (by unfold isiR; rw [ofO_map])) ha
/-! minus -/
theorem sp_neg {i : Int} (h : SP p f (.int i)) : SP p (eNeg f) (.int (-i)) := sp_1 (k := fun d => negD d) rfl h
theorem se_neg {r : R Int} (h : SE p f r D.int) : SE p (eNeg f) (r.bind fun i => .ok (-i)) D.int := se_1 (k := fun d => negD d) (fun _ => .inr rfl) h
/-! divmod -/
def dmR (x y : Int) : R (Int × Int) := if CDivP x y then .ok (x / y, x % y) else .bad
theorem k_divmod (x y : Int) : Ref (gDivmod [.int x, .int y]) ((dmR x y).map (e2 D.int D.int)) := by
  rw [gDivmod_int]
  exact ref_iteR rfl
/-! ### what is walked -/
theorem si_lst {r : R (List α)} (h : SE p f r (eL ea)) : SI p (iLst f) r ea := fun e he => by
  have g := h e he
  show Ref ((f e).bind _) _
  cases r with
  | bad => exact .inl rfl
  | ex c => rw [g.ex]; exact .inr rfl
  | ok l => rw [g.ok]; exact .inr rfl
theorem si_tup {r : R (List α)} (h : SE p f r (eT ea)) : SI p (iTupl f) r ea := fun e he => by
  have g := h e he
  show Ref ((f e).bind _) _
  cases r with
  | bad => exact .inl rfl
  | ex c => rw [g.ex]; exact .inr rfl
  | ok l => rw [g.ok]; exact .inr rfl
def sgns (z : Str) : List Str := z.cps.toList.map fun c => ⟨#[c]⟩
theorem si_str {r : R Str} (h : SE p f r D.str) : SI p (iStrg f) (r.bind fun z => .ok (sgns z)) D.str := fun e he => by
  have g := h e he
  show Ref ((f e).bind _) _
  cases r with
  | bad => exact .inl rfl
  | ex c => rw [g.ex]; exact .inr rfl
  | ok l =>
    rw [g.ok]
    refine .inr ?_
    show R.ok _ = R.ok ((sgns l).map D.str)
    unfold sgns
    rw [List.map_map]
    rfl
def rng (a b : Int) : List Int := (List.range (b - a).toNat).map fun (i : Nat) => a + (i : Int)
theorem rng_eq (a b : Int) : rngOf a b = (rng a b).map D.int := by unfold rngOf rng; rw [List.map_map]; rfl
def rngR1 (j : Int) : R (List Int) := if inR j then .ok (rng 0 j) else .bad
def rngR2 (i j : Int) : R (List Int) := if inR i ∧ inR j then .ok (rng i j) else .bad
theorem si_rng1 {fs : List D → R (List D)} {r : R Int} (h : SE p f r D.int) : SI p (iRng rng1 (aCons f aNil)) (r.bind rngR1) D.int := fun e he => by
  have g := h e he
  show Ref (((f e).bind _).bind _) _
  cases r with
  | bad => exact .inl rfl
  | ex c => rw [g.ex]; exact .inr rfl
  | ok j =>
    rw [g.ok]
    show Ref (if inR j then _ else _) ((rngR1 j).map _)
    exact ref_iteR (rng_eq 0 j)
theorem si_rng2 {fs : List D → R (List D)} {r r' : R Int} (h : SE p f r D.int) (h' : SE p g r' D.int) : SI p (iRng rng2 (aCons f (aCons g aNil))) (r.bind fun i => r'.bind fun j => rngR2 i j) D.int := fun e he => by
  have g1 := h e he
  have g2 := h' e he
  show Ref (((f e).bind _).bind _) _
  cases r with
  | bad => exact .inl rfl
  | ex c => rw [g1.ex]; exact .inr rfl
  | ok i =>
    rw [g1.ok]
    show Ref ((((g e).bind _).bind _).bind _) _
    cases r' with
    | bad => exact .inl rfl
    | ex c => rw [g2.ex]; exact .inr rfl
    | ok j =>
      rw [g2.ok]
      show Ref (if inR i ∧ inR j then _ else _) ((rngR2 i j).map _)
      exact ref_iteR (rng_eq i j)
theorem si_revL {r : R (List α)} (h : SE p f r (eL ea)) : SI p (iRevL f) (r.bind fun l => .ok l.reverse) ea := fun e he => by
  have g := h e he
  show Ref (((f e).bind _).bind _) _
  cases r with
  | bad => exact .inl rfl
  | ex c => rw [g.ex]; exact .inr rfl
  | ok l => rw [g.ok]; exact .inr (by show R.ok ((l.map ea).reverse) = R.ok (l.reverse.map ea); rw [List.map_reverse])
theorem si_revT {r : R (List α)} (h : SE p f r (eT ea)) : SI p (iRevT f) (r.bind fun l => .ok l.reverse) ea := fun e he => by
  have g := h e he
  show Ref (((f e).bind _).bind _) _
  cases r with
  | bad => exact .inl rfl
  | ex c => rw [g.ex]; exact .inr rfl
  | ok l => rw [g.ok]; exact .inr (by show R.ok ((l.map ea).reverse) = R.ok (l.reverse.map ea); rw [List.map_reverse])
/-! pairs -/
def enumN {α : Type} (l : List α) : List (Int × α) := l.zipIdx.map fun p => ((p.2 : Int), p.1)
theorem enum_eq (l : List α) : enumL (l.map ea) = (enumN l).map fun x => (D.int x.1, ea x.2) := by
  unfold enumL enumN
  rw [List.zipIdx_map, List.map_map, List.map_map]
  rfl
theorem si_enum {r : R (List α)} (h : SE p f r (eL ea)) : SI2 p (iEnumL f) (r.bind fun l => .ok (enumN l)) D.int ea := fun e he => by
  have g := h e he
  show Ref ((f e).bind _) _
  cases r with
  | bad => exact .inl rfl
  | ex c => rw [g.ex]; exact .inr rfl
  | ok l => rw [g.ok]; exact .inr (congrArg R.ok (enum_eq l))
theorem zip_eq (l : List α) (k : List β) : (l.map ea).zip (k.map eb) = (l.zip k).map fun x => (ea x.1, eb x.2) := by
  rw [List.zip_map]
  rfl
theorem si_zipL {r : R (List α)} {r' : R (List β)} (h : SE p f r (eL ea)) (h' : SE p g r' (eL eb)) : SI2 p (iZipL f g) (r.bind fun l => r'.bind fun k => .ok (l.zip k)) ea eb := fun e he => by
  have g1 := h e he
  have g2 := h' e he
  show Ref ((f e).bind _) _
  cases r with
  | bad => exact .inl rfl
  | ex c => rw [g1.ex]; exact .inr rfl
  | ok l =>
    rw [g1.ok, R.bind_ok]
    cases r' with
    | bad => exact .inl rfl
    | ex c => rw [g2.ex]; exact .inr rfl
    | ok k => rw [g2.ok]; exact .inr (congrArg R.ok (zip_eq l k))
theorem si_zipT {r : R (List α)} {r' : R (List β)} (h : SE p f r (eT ea)) (h' : SE p g r' (eT eb)) : SI2 p (iZipT f g) (r.bind fun l => r'.bind fun k => .ok (l.zip k)) ea eb := fun e he => by
  have g1 := h e he
  have g2 := h' e he
  show Ref ((f e).bind _) _
  cases r with
  | bad => exact .inl rfl
  | ex c => rw [g1.ex]; exact .inr rfl
  | ok l =>
    rw [g1.ok, R.bind_ok]
    cases r' with
    | bad => exact .inl rfl
    | ex c => rw [g2.ex]; exact .inr rfl
    | ok k => rw [g2.ok]; exact .inr (congrArg R.ok (zip_eq l k))
/-! ### comprehensions -/
def cmpR {α β : Type} (c : α → R Bool) (g : α → R β) : List α → R (List β)
  | [] => .ok []
  | x :: xs => (noX (c x)).bind fun b => if b then (noX (g x)).bind fun y => (cmpR c g xs).bind fun ys => .ok (y :: ys) else cmpR c g xs
def fitN {α : Type} (ys : List α) : R (List α) := if ys.length ≤ sizeLine then .ok ys else .bad
def TGs (t : D → List D → Option (List D)) (enc : α → D) (p : Pat) (Pt : α → Pat) : Prop := ∀ x e, EM p e → ∃ e1, t (enc x) e = some e1 ∧ EM (Pt x) e1
theorem noX_ref {a b : R α} (h : Ref a b) : Ref (noX a) (noX b) := by
  rcases h with h | h
  · subst h; exact .inl rfl
  · subst h; exact .inr rfl
theorem noX_map (f : α → β) (a : R α) : noX (a.map f) = (noX a).map f := by cases a <;> rfl
theorem cmp_sim {t : D → List D → Option (List D)} {Pt : α → Pat} {c : List D → R Bool} {m : List D → R D} {rc : α → R Bool} {rm : α → R β} (ht : TGs t ea p Pt) (hc : ∀ x, SC (Pt x) c (rc x)) (hm : ∀ x, SE (Pt x) m (rm x) eb) {e : List D} (he : EM p e) :
    ∀ l : List α, Ref (compL t c m e (l.map ea)) ((cmpR rc rm l).map (·.map eb))
  | [] => .inr rfl
  | x :: xs => by
    obtain ⟨e1, h1, h2⟩ := ht x e he
    rw [List.map_cons, compL, h1, ofO_some, R.bind_ok]
    refine Ref.bind (f := id) (b := noX (rc x)) ?_ fun b => ?_
    · have := noX_ref (hc x e1 h2)
      cases hr : noX (rc x) <;> rw [hr] at this <;> exact this
    · cases b with
      | true =>
        refine Ref.bind (f := eb) (b := noX (rm x)) ?_ fun y => ?_
        · have := noX_ref (hm x e1 h2)
          rw [noX_map] at this
          exact this
        · exact (cmp_sim ht hc hm he xs).bind fun ys => .inr rfl
      | false => exact cmp_sim ht hc hm he xs
theorem se_comp {it : List D → R (List D)} {t : D → List D → Option (List D)} {Pt : α → Pat} {c : List D → R Bool} {m : List D → R D} {rl : R (List α)} {rc : α → R Bool} {rm : α → R β} (hi : SI p it rl ea) (ht : TGs t ea p Pt) (hc : ∀ x, SC (Pt x) c (rc x)) (hm : ∀ x, SE (Pt x) m (rm x) eb) :
    SE p (eComp it t c m) (rl.bind fun l => (cmpR rc rm l).bind fitN) (eL eb) := fun e he => by
  refine (hi e he).bind fun l => ?_
  refine (cmp_sim ht hc hm he l).bind fun ys => ?_
  show Ref (if (ys.map eb).length ≤ sizeLine then _ else _) ((fitN ys).map _)
  rw [List.length_map]
  exact ref_iteR rfl
theorem cmp_simP {a b : Nat} {Pt : α × β → Pat} {c : List D → R Bool} {m : List D → R D} {rc : α × β → R Bool} {rm : α × β → R γ} (ht : ∀ x e, EM p e → EM (Pt x) ((e.set a (ea x.1)).set b (eb x.2))) (hc : ∀ x, SC (Pt x) c (rc x)) (hm : ∀ x, SE (Pt x) m (rm x) ec) {e : List D} (he : EM p e) :
    ∀ l : List (α × β), Ref (compP a b c m e (l.map fun x => (ea x.1, eb x.2))) ((cmpR rc rm l).map (·.map ec))
  | [] => .inr rfl
  | x :: xs => by
    have h2 := ht x e he
    rw [List.map_cons, compP]
    refine Ref.bind (f := id) (b := noX (rc x)) ?_ fun b => ?_
    · have := noX_ref (hc x _ h2)
      cases hr : noX (rc x) <;> rw [hr] at this <;> exact this
    · cases b with
      | true =>
        refine Ref.bind (f := ec) (b := noX (rm x)) ?_ fun y => ?_
        · have := noX_ref (hm x _ h2)
          rw [noX_map] at this
          exact this
        · exact (cmp_simP ht hc hm he xs).bind fun ys => .inr rfl
      | false => exact cmp_simP ht hc hm he xs
theorem se_compP {it : List D → R (List (D × D))} {a b : Nat} {Pt : α × β → Pat} {c : List D → R Bool} {m : List D → R D} {rl : R (List (α × β))} {rc : α × β → R Bool} {rm : α × β → R γ} (hi : SI2 p it rl ea eb) (ht : ∀ x e, EM p e → EM (Pt x) ((e.set a (ea x.1)).set b (eb x.2))) (hc : ∀ x, SC (Pt x) c (rc x)) (hm : ∀ x, SE (Pt x) m (rm x) ec) :
    SE p (eCompP it a b c m) (rl.bind fun l => (cmpR rc rm l).bind fitN) (eL ec) := fun e he => by
  refine (hi e he).bind fun l => ?_
  refine (cmp_simP ht hc hm he l).bind fun ys => ?_
  show Ref (if (ys.map ec).length ≤ sizeLine then _ else _) ((fitN ys).map _)
  rw [List.length_map]
  exact ref_iteR rfl
/-! ### texts -/
theorem se_m1 {k : Str → D → Option D} {ra : R Str} {rb : R β} {h : Str → β → R γ} (hk : ∀ x y, Ref (ofO (k x (eb y))) ((h x y).map ec)) (ha : SE p f ra D.str) (hb : SE p g rb eb) : SE p (eM1 k f g) (ra.bind fun x => rb.bind fun y => h x y) ec :=
  fun e he => (ha e he).bind fun x => (hb e he).bind fun y => hk x y
theorem se_m0 {k : Str → Option D} {ra : R Str} {h : Str → R γ} (hk : ∀ x, Ref (ofO (k x)) ((h x).map ec)) (ha : SE p f ra D.str) : SE p (eM0 k f) (ra.bind h) ec :=
  fun e he => (ha e he).bind fun x => hk x
def joinR (a : Str) (ys : List Str) : R Str := if (ys.map (·.length)).sum + ys.length * a.length ≤ 16777216 then .ok (Txt.join a ys) else .bad
theorem k_joinL (a : Str) (ys : List Str) : Ref (ofO (gJoin a (eL D.str ys))) ((joinR a ys).map D.str) := by
  show Ref (ofO ((asStrs (ys.map D.str)).bind _)) _
  rw [asStrs_map]
  exact ref_ite
theorem k_joinT (a : Str) (ys : List Str) : Ref (ofO (gJoin a (eT D.str ys))) ((joinR a ys).map D.str) := by
  show Ref (ofO ((asStrs (ys.map D.str)).bind _)) _
  rw [asStrs_map]
  exact ref_ite
def splitR (a b : Str) : R (List Str) := if (b.length == 0) = false ∧ a.length + 2 ≤ sizeLine then .ok (Txt.split a b) else .bad
theorem se_split {ra rb : R Str} (ha : SE p f ra D.str) (hb : SE p g rb D.str) : SE p (eSplit f g) (ra.bind fun x => rb.bind fun y => splitR x y) (eL D.str) :=
  fun e he => (ha e he).bind fun x => (hb e he).bind fun y => by
    rw [splD_str]
    exact ref_iteR rfl
theorem k_starts (a b : Str) : Ref (ofO (gStarts a (.str b))) ((R.ok (Txt.startswith a b)).map D.bl) := .inr rfl
theorem k_digit (a : Str) : Ref (ofO (gDigit a)) ((R.ok (Txt.isdigit a)).map D.bl) := .inr rfl
def strR (i : Int) : R Str := if i.natAbs.log2 < 1920 then .ok (Str.ofString (toString i)) else .bad
theorem k_str (i : Int) : Ref (ofO (gStr [.int i])) ((strR i).map D.str) := ref_ite
def inSR (x z : Str) : R Bool := ofO ((sign1 x).map fun c => decide (c ∈ z.cps.toList))
def ninSR (x z : Str) : R Bool := ofO ((sign1 x).map fun c => !decide (c ∈ z.cps.toList))
theorem k_inS (x z : Str) : Ref (ofO (gInS (.str x) (.str z))) ((inSR x z).map D.bl) := .inr (by unfold inSR; rw [gInS_str]; cases sign1 x <;> rfl)
theorem k_ninS (x z : Str) : Ref (ofO (gNotInS (.str x) (.str z))) ((ninSR x z).map D.bl) := .inr (by unfold ninSR; rw [gNotInS_str]; cases sign1 x <;> rfl)
end
end L2.VL
set_option Elab.async false
set_option linter.all false
set_option maxRecDepth 100000
set_option maxHeartbeats 4000000
namespace L2.VL
open PySem PySem.Spec PyProof.Rows
def foldR {σ α : Type} (f : σ → α → R σ) : List α → σ → R σ
  | [], s => .ok s
  | a :: l, s => (f s a).bind fun s' => foldR f l s'
def TF.thn {σ σ' ρ : Type} (t : TF σ ρ) (k : σ → R (TF σ' ρ)) : R (TF σ' ρ) := match t with
  | .nx s => k s
  | .rt d => .ok (.rt d)
def TF.thx {σ ρ : Type} (t : TF σ ρ) (k : σ → R ρ) : R ρ := match t with
  | .nx s => k s
  | .rt d => .ok d
@[simp] theorem TF.thn_nx {σ σ' ρ : Type} (s : σ) (k : σ → R (TF σ' ρ)) : (TF.nx s).thn k = k s := rfl
@[simp] theorem TF.thn_rt {σ σ' ρ : Type} (d : ρ) (k : σ → R (TF σ' ρ)) : (TF.rt d).thn k = .ok (.rt d) := rfl
@[simp] theorem TF.thx_nx {σ ρ : Type} (s : σ) (k : σ → R ρ) : (TF.nx s).thx k = k s := rfl
@[simp] theorem TF.thx_rt {σ ρ : Type} (d : ρ) (k : σ → R ρ) : (TF.rt d).thx k = .ok d := rfl
def forR {σ ρ α : Type} (f : σ → α → R (TF σ ρ)) : List α → σ → R (TF σ ρ)
  | [], s => .ok (.nx s)
  | a :: l, s => (f s a).bind fun t => t.thn (forR f l)
def whileR {σ : Type} (c : σ → R Bool) (f : σ → R σ) : Nat → σ → R σ
  | 0, _ => .bad
  | n + 1, s => (c s).bind fun b => if b then (f s).bind (whileR c f n) else .ok s
section
variable {p : Pat} {α β γ δ τ σ σ1 σ2 ρ : Type} {ea : α → D} {eb : β → D} {enc : ρ → D} {f : List D → R D} {c : List D → R Bool} {g g1 g2 g3 : List D → R Fl} {P : σ → Pat} {P1 : σ1 → Pat} {P2 : σ2 → Pat}
/-! ### falling through -/
theorem sn_nil : SN p sNil (.ok ()) (fun _ => p) := fun e he => .inr (.inr ⟨(), e, rfl, rfl, he⟩)
theorem sn_asg {i : Nat} {r : R α} {P : α → Pat} (h : SE p f r ea) (hP : ∀ x, P x = p.set i (some (ea x)) := by intro _; rfl) : SN p (sAsg i f) r P := fun e he => by
  have g := h e he
  show r = .bad ∨ _
  cases r with
  | bad => exact .inl rfl
  | ex c => exact .inr (.inl ⟨c, rfl, by show (f e).bind _ = _; rw [g.ex]; rfl⟩)
  | ok x => exact .inr (.inr ⟨x, e.set i (ea x), rfl, by show (f e).bind _ = _; rw [g.ok]; rfl, by rw [hP]; exact he.set i⟩)
theorem sn_drop {r : R α} (h : SE p f r ea) : SN p (sDrop f) (r.bind fun _ => .ok ()) (fun _ => p) := fun e he => by
  have g := h e he
  cases r with
  | bad => exact .inl rfl
  | ex c => exact .inr (.inl ⟨c, rfl, by show (f e).bind _ = _; rw [g.ex]; rfl⟩)
  | ok x => exact .inr (.inr ⟨(), e, rfl, by show (f e).bind _ = _; rw [g.ok]; rfl, he⟩)
theorem sn_seq {s1 : R σ1} {s2 : σ1 → R σ} (h1 : SN p g1 s1 P1) (h2 : ∀ y, SN (P1 y) g2 (s2 y) P) : SN p (sSeq g1 g2) (s1.bind s2) P := fun e he => by
  rcases h1 e he with h | ⟨c, h, k⟩ | ⟨y, e', h, k, m⟩
  · subst h; exact .inl rfl
  · subst h; exact .inr (.inl ⟨c, rfl, by show (g1 e).bind _ = _; rw [k]; rfl⟩)
  · subst h
    have : sSeq g1 g2 e = g2 e' := by show (g1 e).bind _ = _; rw [k]; rfl
    rw [this]
    exact h2 y e' m
/-- what is told on -/
theorem sn_yield {s1 : R σ1} (h1 : SN p g s1 P1) (h : σ1 → σ) (hP : ∀ y, PLe (P (h y)) (P1 y)) : SN p g (s1.bind fun y => .ok (h y)) P := fun e he => by
  rcases h1 e he with h | ⟨c, h, k⟩ | ⟨y, e', h, k, m⟩
  · subst h; exact .inl rfl
  · subst h; exact .inr (.inl ⟨c, rfl, k⟩)
  · subst h; exact .inr (.inr ⟨_, e', rfl, k, EM.le (hP y) m⟩)
theorem sn_if {rc : R Bool} {s1 s2 : R σ} (hc : SC p c rc) (h1 : SN p g1 s1 P) (h2 : SN p g2 s2 P) : SN p (sIf c g1 g2) (rc.bind fun b => if b then s1 else s2) P := fun e he => by
  have g := hc e he
  cases rc with
  | bad => exact .inl rfl
  | ex c' => exact .inr (.inl ⟨c', rfl, by show (c e).bind _ = _; rw [g.ex]; rfl⟩)
  | ok b =>
    cases b with
    | true =>
      have : sIf c g1 g2 e = g1 e := by show (c e).bind _ = _; rw [g.ok]; rfl
      rw [this]
      exact h1 e he
    | false =>
      have : sIf c g1 g2 e = g2 e := by show (c e).bind _ = _; rw [g.ok]; rfl
      rw [this]
      exact h2 e he
theorem sn_raise {n : Str} : SN p (sRaise n) (.ex n : R σ) P := fun e he => .inr (.inl ⟨n, rfl, rfl⟩)
theorem fold_sim {t : D → List D → Option (List D)} {P : σ → Pat} {Pt : σ → α → Pat} {st : σ → α → R σ} (ht : ∀ s, TGs t ea (P s) (Pt s)) (hb : ∀ s x, SN (Pt s x) g (st s x) P) :
    ∀ (l : List α) (s : σ) (e : List D), EM (P s) e → foldR st l s = .bad ∨ (∃ c, foldR st l s = .ex c ∧ forL t g (l.map ea) e = .ex c) ∨ ∃ y e', foldR st l s = .ok y ∧ forL t g (l.map ea) e = .ok (.nx e') ∧ EM (P y) e'
  | [], s, e, he => .inr (.inr ⟨s, e, rfl, rfl, he⟩)
  | x :: l, s, e, he => by
    obtain ⟨e1, h1, h2⟩ := ht s x e he
    rw [List.map_cons, forL, h1, foldR, ofO_some, R.bind_ok]
    rcases hb s x e1 h2 with h | ⟨c, h, k⟩ | ⟨y, e', h, k, m⟩
    · rw [h]; exact .inl rfl
    · rw [h, k]; exact .inr (.inl ⟨c, rfl, rfl⟩)
    · rw [h, k]
      exact fold_sim ht hb l y e' m
theorem sn_for {it : List D → R (List D)} {t : D → List D → Option (List D)} {rl : R (List α)} {P : σ → Pat} {Pt : σ → α → Pat} {st : σ → α → R σ} (s0 : σ) (hi : SI p it rl ea) (h0 : PLe (P s0) p) (ht : ∀ s, TGs t ea (P s) (Pt s)) (hb : ∀ s x, SN (Pt s x) g (st s x) P) :
    SN p (sFor it t g) (rl.bind fun l => foldR st l s0) P := fun e he => by
  have gi := hi e he
  cases rl with
  | bad => exact .inl rfl
  | ex c => exact .inr (.inl ⟨c, rfl, by show (it e).bind _ = _; rw [gi.ex]; rfl⟩)
  | ok l =>
    have : sFor it t g e = forL t g (l.map ea) e := by show (it e).bind _ = _; rw [gi.ok]; rfl
    rw [this]
    exact fold_sim ht hb l s0 e (EM.le h0 he)
theorem fold_simP {i j : Nat} {P : σ → Pat} {Pt : σ → α × β → Pat} {st : σ → α × β → R σ} (ht : ∀ s x e, EM (P s) e → EM (Pt s x) ((e.set i (ea x.1)).set j (eb x.2))) (hb : ∀ s x, SN (Pt s x) g (st s x) P) :
    ∀ (l : List (α × β)) (s : σ) (e : List D), EM (P s) e → foldR st l s = .bad ∨ (∃ c, foldR st l s = .ex c ∧ forP i j g (l.map fun x => (ea x.1, eb x.2)) e = .ex c) ∨ ∃ y e', foldR st l s = .ok y ∧ forP i j g (l.map fun x => (ea x.1, eb x.2)) e = .ok (.nx e') ∧ EM (P y) e'
  | [], s, e, he => .inr (.inr ⟨s, e, rfl, rfl, he⟩)
  | x :: l, s, e, he => by
    have h2 := ht s x e he
    rw [List.map_cons, forP, foldR]
    rcases hb s x _ h2 with h | ⟨c, h, k⟩ | ⟨y, e', h, k, m⟩
    · rw [h]; exact .inl rfl
    · rw [h, k]; exact .inr (.inl ⟨c, rfl, rfl⟩)
    · rw [h, k]
      exact fold_simP ht hb l y e' m
theorem sn_forP {it : List D → R (List (D × D))} {i j : Nat} {rl : R (List (α × β))} {P : σ → Pat} {Pt : σ → α × β → Pat} {st : σ → α × β → R σ} (s0 : σ) (hi : SI2 p it rl ea eb) (h0 : PLe (P s0) p) (ht : ∀ s x e, EM (P s) e → EM (Pt s x) ((e.set i (ea x.1)).set j (eb x.2))) (hb : ∀ s x, SN (Pt s x) g (st s x) P) :
    SN p (sForP it i j g) (rl.bind fun l => foldR st l s0) P := fun e he => by
  have gi := hi e he
  cases rl with
  | bad => exact .inl rfl
  | ex c => exact .inr (.inl ⟨c, rfl, by show (it e).bind _ = _; rw [gi.ex]; rfl⟩)
  | ok l =>
    have : sForP it i j g e = forP i j g (l.map fun x => (ea x.1, eb x.2)) e := by show (it e).bind _ = _; rw [gi.ok]; rfl
    rw [this]
    exact fold_simP ht hb l s0 e (EM.le h0 he)
theorem while_sim {P : σ → Pat} {rc : σ → R Bool} {st : σ → R σ} (hc : ∀ s, SC (P s) c (rc s)) (hb : ∀ s, SN (P s) g (st s) P) :
    ∀ (n : Nat) (s : σ) (e : List D), EM (P s) e → whileR rc st n s = .bad ∨ (∃ x, whileR rc st n s = .ex x ∧ whileN c g n e = .ex x) ∨ ∃ y e', whileR rc st n s = .ok y ∧ whileN c g n e = .ok (.nx e') ∧ EM (P y) e'
  | 0, s, e, he => .inl rfl
  | n + 1, s, e, he => by
    rw [whileR, whileN]
    have g1 := hc s e he
    cases h : rc s with
    | bad => exact .inl rfl
    | ex x => rw [h] at g1; rw [g1.ex]; exact .inr (.inl ⟨x, rfl, rfl⟩)
    | ok b =>
      rw [h] at g1
      rw [g1.ok]
      cases b with
      | false => exact .inr (.inr ⟨s, e, rfl, rfl, he⟩)
      | true =>
        show (st s).bind _ = _ ∨ (∃ x, (st s).bind _ = _ ∧ (g e).bind _ = _) ∨ ∃ y e', (st s).bind _ = _ ∧ (g e).bind _ = _ ∧ _
        rcases hb s e he with h | ⟨x, h, k⟩ | ⟨y, e', h, k, m⟩
        · rw [h]; exact .inl rfl
        · rw [h, k]; exact .inr (.inl ⟨x, rfl, rfl⟩)
        · rw [h, k]
          exact while_sim hc hb n y e' m
theorem sn_while {P : σ → Pat} {rc : σ → R Bool} {st : σ → R σ} {n : Nat} (s0 : σ) (h0 : PLe (P s0) p) (hc : ∀ s, SC (P s) c (rc s)) (hb : ∀ s, SN (P s) g (st s) P) : SN p (whileN c g n) (whileR rc st n s0) P := fun e he => while_sim hc hb n s0 e (EM.le h0 he)
/-! own lists -/
def appR {α : Type} (l : List α) (x : α) : R (List α) := if l.length < sizeLine then .ok (l ++ [x]) else .bad
theorem sn_own {i : Nat} {k : List D → List D → Option (List D)} {fs : List D → R (List D)} {l : List D} {rs : R τ} {es : τ → List D} {T : τ → R (List α)} {P : List α → Pat} (hg : p[i]? = some (some (.lst l))) (hs : SA p fs rs es) (hk : ∀ t, Ref (ofO (k l (es t))) ((T t).map (·.map ea)))
    (hP : ∀ x, P x = p.set i (some (eL ea x)) := by intro _; rfl) : SN p (sOwn i k fs) (rs.bind T) P := fun e he => by
  have g1 := hs e he
  have e1 : sOwn i k fs e = (fs e).bind fun as => ownL i k e l as := by
    show (ownAt i e).bind _ = _
    rw [ownAt_eq, he.get hg]
    rfl
  rw [e1]
  cases rs with
  | bad => exact .inl rfl
  | ex c => exact .inr (.inl ⟨c, rfl, by rw [g1.ex]; rfl⟩)
  | ok t =>
    rw [g1.ok]
    have g2 := hk t
    show T t = _ ∨ (∃ c, T t = _ ∧ ownL i k e l (es t) = _) ∨ ∃ y e', T t = _ ∧ ownL i k e l (es t) = _ ∧ _
    rw [ownL_eq]
    cases h : T t with
    | bad => exact .inl rfl
    | ex c => rw [h] at g2; rw [g2.ex]; exact .inr (.inl ⟨c, rfl, rfl⟩)
    | ok x =>
      rw [h] at g2
      rw [g2.ok]
      exact .inr (.inr ⟨x, _, rfl, rfl, by rw [hP]; exact he.set i⟩)
theorem k_app (l : List α) (x : α) : Ref (ofO (gApp (l.map ea) [ea x])) ((appR l x).map (·.map ea)) := by
  rw [gApp_one, List.length_map]
  unfold appR
  by_cases h : l.length < sizeLine
  · rw [if_pos h, if_pos h]; exact .inr (by show R.ok _ = R.ok (List.map ea (l ++ [x])); rw [List.map_append]; rfl)
  · rw [if_neg h, if_neg h]; exact .inl rfl
theorem k_clear (l : List D) : Ref (ofO (gClear l [])) ((R.ok ([] : List α)).map (·.map ea)) := .inr rfl
theorem k_rev (l : List α) : Ref (ofO (gRev (l.map ea) [])) ((R.ok l.reverse).map (·.map ea)) := .inr (by show R.ok _ = R.ok (List.map ea l.reverse); rw [List.map_reverse])
/-! x[i] = e of a list -/
def setR {α : Type} (l : List α) (k : Int) (x : α) : R (List α) := (ofO (ixN l.length k)).bind fun j => .ok (l.set j x)
theorem k_set (l : List α) (k : Int) (x : α) : setD (l.map ea) (.int k) (ea x) = (setR l k x).map (·.map ea) := by
  rw [setD_int, List.length_map]
  unfold setR
  cases ixN l.length k with
  | none => rfl
  | some j => show R.ok _ = R.ok (List.map ea (l.set j x)); rw [List.map_set]
theorem sn_store {i : Nat} {fk fv : List D → R D} {l : List α} {rv : R α} {rk : R Int} {P : List α → Pat} (hg : p[i]? = some (some (.lst (l.map ea)))) (hv : SE p fv rv ea) (hk : SE p fk rk D.int) (hP : ∀ x, P x = p.set i (some (eL ea x)) := by intro _; rfl) :
    SN p (sStore i fk fv) (rv.bind fun x => rk.bind fun k => setR l k x) P := fun e he => by
  have g1 := hv e he
  have g2 := hk e he
  have e1 : sStore i fk fv e = (fv e).bind fun d => (fk e).bind fun k => (setD (l.map ea) k d).bind fun ds' => .ok (.nx (e.set i (.lst ds'))) := by
    show (ownAt i e).bind _ = _
    rw [ownAt_eq, he.get hg]
    rfl
  rw [e1]
  cases rv with
  | bad => exact .inl rfl
  | ex c => exact .inr (.inl ⟨c, rfl, by rw [g1.ex]; rfl⟩)
  | ok x =>
    rw [g1.ok, R.bind_ok, R.bind_ok]
    cases rk with
    | bad => exact .inl rfl
    | ex c => exact .inr (.inl ⟨c, rfl, by rw [g2.ex]; rfl⟩)
    | ok k =>
      rw [g2.ok, R.bind_ok, R.bind_ok, k_set]
      cases h : setR l k x with
      | bad => exact .inl rfl
      | ex c => exact .inr (.inl ⟨c, rfl, rfl⟩)
      | ok y => exact .inr (.inr ⟨y, _, rfl, rfl, by rw [hP]; exact he.set i⟩)
/-! x op= e -/
theorem sn_aug {i : Nat} {k : D → D → Option D} {d : D} {ra : R α} {h : α → R β} {P : β → Pat} (hg : p[i]? = some (some d)) (ha : SE p f ra ea) (hk : ∀ x, Ref (ofO (k d (ea x))) ((h x).map eb)) (hP : ∀ x, P x = p.set i (some (eb x)) := by intro _; rfl) : SN p (sAug i k f) (ra.bind h) P := fun e he => by
  have g1 := ha e he
  have e1 : sAug i k f e = (f e).bind fun y => (ofO (k d y)).bind fun d => .ok (.nx (e.set i d)) := by
    show (ofO e[i]?).bind _ = _
    rw [he.get hg]
    rfl
  rw [e1]
  cases ra with
  | bad => exact .inl rfl
  | ex c => exact .inr (.inl ⟨c, rfl, by rw [g1.ex]; rfl⟩)
  | ok x =>
    rw [g1.ok, R.bind_ok, R.bind_ok]
    have g2 := hk x
    cases h' : h x with
    | bad => exact .inl rfl
    | ex c => rw [h'] at g2; rw [g2.ex]; exact .inr (.inl ⟨c, rfl, rfl⟩)
    | ok y => rw [h'] at g2; rw [g2.ok]; exact .inr (.inr ⟨y, _, rfl, rfl, by rw [hP]; exact he.set i⟩)
/-! a, b = e1, e2 -/
theorem sn_par {i j : Nat} {fa fb : List D → R D} {ra : R α} {rb : R β} {P : α × β → Pat} (ha : SE p fa ra ea) (hb : SE p fb rb eb) (hP : ∀ x, P x = (p.set i (some (ea x.1))).set j (some (eb x.2)) := by intro _; rfl) :
    SN p (sPar i j (aCons fa (aCons fb aNil))) (ra.bind fun x => rb.bind fun y => .ok (x, y)) P := fun e he => by
  have g1 := ha e he
  have g2 := hb e he
  have e1 : sPar i j (aCons fa (aCons fb aNil)) e = (fa e).bind fun x => (fb e).bind fun y => .ok (.nx ((e.set i x).set j y)) := by
    show ((fa e).bind _).bind _ = _
    cases fa e with
    | bad => rfl
    | ex c => rfl
    | ok x =>
      show (((fb e).bind _).bind _).bind _ = _
      cases fb e <;> rfl
  rw [e1]
  cases ra with
  | bad => exact .inl rfl
  | ex c => exact .inr (.inl ⟨c, rfl, by rw [g1.ex]; rfl⟩)
  | ok x =>
    rw [g1.ok, R.bind_ok, R.bind_ok]
    cases rb with
    | bad => exact .inl rfl
    | ex c => exact .inr (.inl ⟨c, rfl, by rw [g2.ex]; rfl⟩)
    | ok y =>
      rw [g2.ok]
      exact .inr (.inr ⟨(x, y), _, rfl, rfl, by rw [hP]; exact (he.set i).set j⟩)
/-! ### ending -/
theorem sx_ret {r : R ρ} (h : SE p f r enc) : SX p (sRet f) r enc := fun e he => by
  have g := h e he
  show Ref ((f e).bind _) _
  cases r with
  | bad => exact .inl rfl
  | ex c => rw [g.ex]; exact .inr rfl
  | ok x => rw [g.ok]; exact .inr rfl
theorem sx_raise {n : Str} : SX p (sRaise n) (.ex n : R ρ) enc := fun e he => .inr rfl
theorem sx_seq {s1 : R σ1} {r2 : σ1 → R ρ} (h1 : SN p g1 s1 P1) (h2 : ∀ y, SX (P1 y) g2 (r2 y) enc) : SX p (sSeq g1 g2) (s1.bind r2) enc := fun e he => by
  rcases h1 e he with h | ⟨c, h, k⟩ | ⟨y, e', h, k, m⟩
  · subst h; exact .inl rfl
  · subst h; exact .inr (by show (g1 e).bind _ = _; rw [k]; rfl)
  · subst h
    have : sSeq g1 g2 e = g2 e' := by show (g1 e).bind _ = _; rw [k]; rfl
    rw [this]
    exact h2 y e' m
theorem sx_if {rc : R Bool} {s1 s2 : R ρ} (hc : SC p c rc) (h1 : SX p g1 s1 enc) (h2 : SX p g2 s2 enc) : SX p (sIf c g1 g2) (rc.bind fun b => if b then s1 else s2) enc := fun e he => by
  have g := hc e he
  show Ref ((c e).bind _) _
  cases rc with
  | bad => exact .inl rfl
  | ex c' => rw [g.ex]; exact .inr rfl
  | ok b =>
    rw [g.ok]
    cases b with
    | true => exact h1 e he
    | false => exact h2 e he
/-- one side ends, the other goes on -/
theorem sx_ifT {rc : R Bool} {s1 : R ρ} {s2 : R σ2} {s3 : σ2 → R ρ} (hc : SC p c rc) (h1 : SX p g1 s1 enc) (h2 : SN p g2 s2 P2) (h3 : ∀ y, SX (P2 y) g3 (s3 y) enc) : SX p (sSeq (sIf c g1 g2) g3) (rc.bind fun b => if b then s1 else s2.bind s3) enc := fun e he => by
  have g := hc e he
  show Ref (((c e).bind _).bind _) _
  cases rc with
  | bad => exact .inl rfl
  | ex c' => rw [g.ex]; exact .inr rfl
  | ok b =>
    rw [g.ok]
    cases b with
    | true =>
      show Ref ((g1 e).bind _) _
      have k := h1 e he
      simp only [R.bind_ok, if_true]
      cases s1 with
      | bad => exact .inl rfl
      | ex c => rw [k.ex]; exact .inr rfl
      | ok x => rw [k.ok]; exact .inr rfl
    | false => exact sx_seq h2 h3 e he
theorem sx_ifF {rc : R Bool} {s1 : R σ1} {s2 : R ρ} {s3 : σ1 → R ρ} (hc : SC p c rc) (h1 : SN p g1 s1 P1) (h2 : SX p g2 s2 enc) (h3 : ∀ y, SX (P1 y) g3 (s3 y) enc) : SX p (sSeq (sIf c g1 g2) g3) (rc.bind fun b => if b then s1.bind s3 else s2) enc := fun e he => by
  have g := hc e he
  show Ref (((c e).bind _).bind _) _
  cases rc with
  | bad => exact .inl rfl
  | ex c' => rw [g.ex]; exact .inr rfl
  | ok b =>
    rw [g.ok]
    cases b with
    | false =>
      show Ref ((g2 e).bind _) _
      have k := h2 e he
      simp only [R.bind_ok]
      cases s2 with
      | bad => exact .inl rfl
      | ex c => rw [k.ex]; exact .inr rfl
      | ok x => rw [k.ok]; exact .inr rfl
    | true => exact sx_seq h1 h3 e he
theorem sx_seqB {r1 : R (TF σ1 ρ)} {r2 : σ1 → R ρ} (h1 : SB p g1 r1 P1 enc) (h2 : ∀ y, SX (P1 y) g2 (r2 y) enc) : SX p (sSeq g1 g2) (r1.bind fun t => t.thx r2) enc := fun e he => by
  rcases h1 e he with h | ⟨c, h, k⟩ | ⟨y, e', h, k, m⟩ | ⟨d, h, k⟩
  · subst h; exact .inl rfl
  · subst h; exact .inr (by show (g1 e).bind _ = _; rw [k]; rfl)
  · subst h
    have : sSeq g1 g2 e = g2 e' := by show (g1 e).bind _ = _; rw [k]; rfl
    rw [this]
    exact h2 y e' m
  · subst h; exact .inr (by show (g1 e).bind _ = _; rw [k]; rfl)
/-! ### one or the other -/
theorem sb_n {s : R σ} (h : SN p g s P) : SB p g (s.bind fun y => .ok (.nx y)) P enc := fun e he => by
  rcases h e he with h | ⟨c, h, k⟩ | ⟨y, e', h, k, m⟩
  · subst h; exact .inl rfl
  · subst h; exact .inr (.inl ⟨c, rfl, k⟩)
  · subst h; exact .inr (.inr (.inl ⟨y, e', rfl, k, m⟩))
theorem sb_x {r : R ρ} (h : SX p g r enc) : SB p g (r.bind fun y => .ok (.rt y)) P enc := fun e he => by
  have k := h e he
  cases r with
  | bad => exact .inl rfl
  | ex c => exact .inr (.inl ⟨c, rfl, k.ex⟩)
  | ok x => exact .inr (.inr (.inr ⟨x, rfl, k.ok⟩))
theorem sb_seq {s1 : R σ1} {r2 : σ1 → R (TF σ ρ)} (h1 : SN p g1 s1 P1) (h2 : ∀ y, SB (P1 y) g2 (r2 y) P enc) : SB p (sSeq g1 g2) (s1.bind r2) P enc := fun e he => by
  rcases h1 e he with h | ⟨c, h, k⟩ | ⟨y, e', h, k, m⟩
  · subst h; exact .inl rfl
  · subst h; exact .inr (.inl ⟨c, rfl, by show (g1 e).bind _ = _; rw [k]; rfl⟩)
  · subst h
    have : sSeq g1 g2 e = g2 e' := by show (g1 e).bind _ = _; rw [k]; rfl
    rw [this]
    exact h2 y e' m
theorem sb_seqB {r1 : R (TF σ1 ρ)} {r2 : σ1 → R (TF σ ρ)} (h1 : SB p g1 r1 P1 enc) (h2 : ∀ y, SB (P1 y) g2 (r2 y) P enc) : SB p (sSeq g1 g2) (r1.bind fun t => t.thn r2) P enc := fun e he => by
  rcases h1 e he with h | ⟨c, h, k⟩ | ⟨y, e', h, k, m⟩ | ⟨d, h, k⟩
  · subst h; exact .inl rfl
  · subst h; exact .inr (.inl ⟨c, rfl, by show (g1 e).bind _ = _; rw [k]; rfl⟩)
  · subst h
    have : sSeq g1 g2 e = g2 e' := by show (g1 e).bind _ = _; rw [k]; rfl
    rw [this]
    exact h2 y e' m
  · subst h; exact .inr (.inr (.inr ⟨d, rfl, by show (g1 e).bind _ = _; rw [k]; rfl⟩))
theorem sb_yield {r1 : R (TF σ1 ρ)} (h1 : SB p g r1 P1 enc) (h : σ1 → σ) (hP : ∀ y, PLe (P (h y)) (P1 y)) : SB p g (r1.bind fun t => t.thn fun y => .ok (.nx (h y))) P enc := fun e he => by
  rcases h1 e he with h | ⟨c, h, k⟩ | ⟨y, e', h, k, m⟩ | ⟨d, h, k⟩
  · subst h; exact .inl rfl
  · subst h; exact .inr (.inl ⟨c, rfl, k⟩)
  · subst h; exact .inr (.inr (.inl ⟨_, e', rfl, k, EM.le (hP y) m⟩))
  · subst h; exact .inr (.inr (.inr ⟨d, rfl, k⟩))
theorem sb_if {rc : R Bool} {r1 r2 : R (TF σ ρ)} (hc : SC p c rc) (h1 : SB p g1 r1 P enc) (h2 : SB p g2 r2 P enc) : SB p (sIf c g1 g2) (rc.bind fun b => if b then r1 else r2) P enc := fun e he => by
  have g := hc e he
  cases rc with
  | bad => exact .inl rfl
  | ex c' => exact .inr (.inl ⟨c', rfl, by show (c e).bind _ = _; rw [g.ex]; rfl⟩)
  | ok b =>
    cases b with
    | true =>
      have : sIf c g1 g2 e = g1 e := by show (c e).bind _ = _; rw [g.ok]; rfl
      rw [this]
      exact h1 e he
    | false =>
      have : sIf c g1 g2 e = g2 e := by show (c e).bind _ = _; rw [g.ok]; rfl
      rw [this]
      exact h2 e he
theorem for_sim {t : D → List D → Option (List D)} {P : σ → Pat} {Pt : σ → α → Pat} {st : σ → α → R (TF σ ρ)} (ht : ∀ s, TGs t ea (P s) (Pt s)) (hb : ∀ s x, SB (Pt s x) g (st s x) P enc) :
    ∀ (l : List α) (s : σ) (e : List D), EM (P s) e → forR st l s = .bad ∨ (∃ c, forR st l s = .ex c ∧ forL t g (l.map ea) e = .ex c) ∨ (∃ y e', forR st l s = .ok (.nx y) ∧ forL t g (l.map ea) e = .ok (.nx e') ∧ EM (P y) e') ∨ ∃ d, forR st l s = .ok (.rt d) ∧ forL t g (l.map ea) e = .ok (.rt (enc d))
  | [], s, e, he => .inr (.inr (.inl ⟨s, e, rfl, rfl, he⟩))
  | x :: l, s, e, he => by
    obtain ⟨e1, h1, h2⟩ := ht s x e he
    rw [List.map_cons, forL, h1, forR, ofO_some, R.bind_ok]
    rcases hb s x e1 h2 with h | ⟨c, h, k⟩ | ⟨y, e', h, k, m⟩ | ⟨d, h, k⟩
    · rw [h]; exact .inl rfl
    · rw [h, k]; exact .inr (.inl ⟨c, rfl, rfl⟩)
    · rw [h, k]
      exact for_sim ht hb l y e' m
    · rw [h, k]; exact .inr (.inr (.inr ⟨d, rfl, rfl⟩))
theorem sb_for {it : List D → R (List D)} {t : D → List D → Option (List D)} {rl : R (List α)} {P : σ → Pat} {Pt : σ → α → Pat} {st : σ → α → R (TF σ ρ)} (s0 : σ) (hi : SI p it rl ea) (h0 : PLe (P s0) p) (ht : ∀ s, TGs t ea (P s) (Pt s)) (hb : ∀ s x, SB (Pt s x) g (st s x) P enc) :
    SB p (sFor it t g) (rl.bind fun l => forR st l s0) P enc := fun e he => by
  have gi := hi e he
  cases rl with
  | bad => exact .inl rfl
  | ex c => exact .inr (.inl ⟨c, rfl, by show (it e).bind _ = _; rw [gi.ex]; rfl⟩)
  | ok l =>
    have : sFor it t g e = forL t g (l.map ea) e := by show (it e).bind _ = _; rw [gi.ok]; rfl
    rw [this]
    exact for_sim ht hb l s0 e (EM.le h0 he)
theorem for_simP {i j : Nat} {P : σ → Pat} {Pt : σ → α × β → Pat} {st : σ → α × β → R (TF σ ρ)} (ht : ∀ s x e, EM (P s) e → EM (Pt s x) ((e.set i (ea x.1)).set j (eb x.2))) (hb : ∀ s x, SB (Pt s x) g (st s x) P enc) :
    ∀ (l : List (α × β)) (s : σ) (e : List D), EM (P s) e → forR st l s = .bad ∨ (∃ c, forR st l s = .ex c ∧ forP i j g (l.map fun x => (ea x.1, eb x.2)) e = .ex c) ∨ (∃ y e', forR st l s = .ok (.nx y) ∧ forP i j g (l.map fun x => (ea x.1, eb x.2)) e = .ok (.nx e') ∧ EM (P y) e') ∨ ∃ d, forR st l s = .ok (.rt d) ∧ forP i j g (l.map fun x => (ea x.1, eb x.2)) e = .ok (.rt (enc d))
  | [], s, e, he => .inr (.inr (.inl ⟨s, e, rfl, rfl, he⟩))
  | x :: l, s, e, he => by
    have h2 := ht s x e he
    rw [List.map_cons, forP, forR]
    rcases hb s x _ h2 with h | ⟨c, h, k⟩ | ⟨y, e', h, k, m⟩ | ⟨d, h, k⟩
    · rw [h]; exact .inl rfl
    · rw [h, k]; exact .inr (.inl ⟨c, rfl, rfl⟩)
    · rw [h, k]
      exact for_simP ht hb l y e' m
    · rw [h, k]; exact .inr (.inr (.inr ⟨d, rfl, rfl⟩))
theorem sb_forP {it : List D → R (List (D × D))} {i j : Nat} {rl : R (List (α × β))} {P : σ → Pat} {Pt : σ → α × β → Pat} {st : σ → α × β → R (TF σ ρ)} (s0 : σ) (hi : SI2 p it rl ea eb) (h0 : PLe (P s0) p) (ht : ∀ s x e, EM (P s) e → EM (Pt s x) ((e.set i (ea x.1)).set j (eb x.2))) (hb : ∀ s x, SB (Pt s x) g (st s x) P enc) :
    SB p (sForP it i j g) (rl.bind fun l => forR st l s0) P enc := fun e he => by
  have gi := hi e he
  cases rl with
  | bad => exact .inl rfl
  | ex c => exact .inr (.inl ⟨c, rfl, by show (it e).bind _ = _; rw [gi.ex]; rfl⟩)
  | ok l =>
    have : sForP it i j g e = forP i j g (l.map fun x => (ea x.1, eb x.2)) e := by show (it e).bind _ = _; rw [gi.ok]; rfl
    rw [this]
    exact for_simP ht hb l s0 e (EM.le h0 he)
/-! ### the targets of loops -/
theorem tg_name {i : Nat} {P : Pat} {Pt : α → Pat} (hP : ∀ x, Pt x = P.set i (some (ea x)) := by intro _; rfl) : TGs (tgName i) ea P Pt := fun x e he => ⟨_, rfl, by rw [hP]; exact he.set i⟩
/-! ### a def -/
theorem run_x {n : Nat} {ds : List D} {r : R ρ} (h : SX p g r enc) (hp : EM p (ds ++ List.replicate (n - ds.length) .non)) : Ref (runF n g ds) (r.map enc) := by
  have k := h _ hp
  show Ref ((g _).bind _) _
  cases r with
  | bad => exact .inl rfl
  | ex c => rw [k.ex]; exact .inr rfl
  | ok x => rw [k.ok]; exact .inr rfl
theorem run_xr {n : Nat} {ds : List D} {r : R ρ} (h : SX p g r enc) (hp : EM p (ds ++ List.replicate (n - ds.length) .non)) : Ref (runFr n g ds) (r.map enc) := by
  have k := h _ hp
  show Ref ((g _).bind _) _
  cases r with
  | bad => exact .inl rfl
  | ex c => rw [k.ex]; exact .inr rfl
  | ok x => rw [k.ok]; exact .inr rfl
theorem run_n {n : Nat} {ds : List D} {s : R σ} (h : SN p g s P) (hp : EM p (ds ++ List.replicate (n - ds.length) .non)) : Ref (runF n g ds) ((s.bind fun _ => .ok ()).map eU) := by
  show Ref ((g _).bind _) _
  rcases h _ hp with h | ⟨c, h, k⟩ | ⟨y, e', h, k, m⟩
  · subst h; exact .inl rfl
  · subst h; rw [k]; exact .inr rfl
  · subst h; rw [k]; exact .inr rfl
end
end L2.VL
namespace L2.VL
open PySem PySem.Spec PyProof.Rows
section
variable {p : Pat} {α β γ δ τ σ σ1 σ2 ρ : Type} {ea : α → D} {eb : β → D} {ec : γ → D} {enc : ρ → D} {f f' : List D → R D} {c : List D → R Bool} {g g1 g2 g3 : List D → R Fl} {P : σ → Pat} {P1 : σ1 → Pat} {P2 : σ2 → Pat}
theorem sb_ifT {rc : R Bool} {s1 : R ρ} {s2 : R σ2} {s3 : σ2 → R (TF σ ρ)} (hc : SC p c rc) (h1 : SX p g1 s1 enc) (h2 : SN p g2 s2 P2) (h3 : ∀ y, SB (P2 y) g3 (s3 y) P enc) : SB p (sSeq (sIf c g1 g2) g3) (rc.bind fun b => if b then s1.bind fun d => .ok (.rt d) else s2.bind s3) P enc := fun e he => by
  have gc := hc e he
  cases rc with
  | bad => exact .inl rfl
  | ex c' => exact .inr (.inl ⟨c', rfl, by show ((c e).bind _).bind _ = _; rw [gc.ex]; rfl⟩)
  | ok b =>
    cases b with
    | true =>
      have e1 : sSeq (sIf c g1 g2) g3 e = (g1 e).bind fun fl => fl.thn g3 := by show ((c e).bind _).bind _ = _; rw [gc.ok]; rfl
      rw [e1]
      have k := h1 e he
      simp only [R.bind_ok, if_true]
      cases s1 with
      | bad => exact .inl rfl
      | ex c => exact .inr (.inl ⟨c, rfl, by rw [k.ex]; rfl⟩)
      | ok x => exact .inr (.inr (.inr ⟨x, rfl, by rw [k.ok]; rfl⟩))
    | false =>
      have e1 : sSeq (sIf c g1 g2) g3 e = sSeq g2 g3 e := by show ((c e).bind _).bind _ = _; rw [gc.ok]; rfl
      rw [e1]
      exact sb_seq h2 h3 e he
theorem sb_ifF {rc : R Bool} {s1 : R σ1} {s2 : R ρ} {s3 : σ1 → R (TF σ ρ)} (hc : SC p c rc) (h1 : SN p g1 s1 P1) (h2 : SX p g2 s2 enc) (h3 : ∀ y, SB (P1 y) g3 (s3 y) P enc) : SB p (sSeq (sIf c g1 g2) g3) (rc.bind fun b => if b then s1.bind s3 else s2.bind fun d => .ok (.rt d)) P enc := fun e he => by
  have gc := hc e he
  cases rc with
  | bad => exact .inl rfl
  | ex c' => exact .inr (.inl ⟨c', rfl, by show ((c e).bind _).bind _ = _; rw [gc.ex]; rfl⟩)
  | ok b =>
    cases b with
    | false =>
      have e1 : sSeq (sIf c g1 g2) g3 e = (g2 e).bind fun fl => fl.thn g3 := by show ((c e).bind _).bind _ = _; rw [gc.ok]; rfl
      rw [e1]
      have k := h2 e he
      simp only [R.bind_ok]
      cases s2 with
      | bad => exact .inl rfl
      | ex c => exact .inr (.inl ⟨c, rfl, by rw [k.ex]; rfl⟩)
      | ok x => exact .inr (.inr (.inr ⟨x, rfl, by rw [k.ok]; rfl⟩))
    | true =>
      have e1 : sSeq (sIf c g1 g2) g3 e = sSeq g1 g3 e := by show ((c e).bind _).bind _ = _; rw [gc.ok]; rfl
      rw [e1]
      exact sb_seq h1 h3 e he
theorem se_ixC {ra : R α} {k : Int} {h : α → R γ} (ha : SE p f ra ea) (hb : SP p f' (.int k)) (hk : ∀ x, Ref (atD (ea x) (.int k)) ((h x).map ec)) : SE p (eIx f f') (ra.bind h) ec := fun e he => by
  refine (ha e he).bind fun x => ?_
  rw [hb e he]
  exact hk x
def SOp (p : Pat) (f : List D → R (Option Int)) (o : Option Int) : Prop := ∀ e, EM p e → f e = .ok o
theorem sop_no : SOp p pNo none := fun _ _ => rfl
theorem sop_at {i : Int} (h : SP p f (.int i)) : SOp p (pAt f) (some i) := fun e he => by
  show (f e).bind _ = _
  rw [h e he]
  rfl
theorem SOp.so {f : List D → R (Option Int)} {o : Option Int} (h : SOp p f o) : SO p f (.ok o) := fun e he => .inr (h e he)
theorem sp_slL {m : Tg} {pl ph : List D → R (Option Int)} {l : List α} {lo hi : Option Int} (ha : SP p f (eL ea l)) (h1 : SOp p pl lo) (h2 : SOp p ph hi) (hc : cnOk m (l.map ea) = true) : SP p (eSlL m f pl ph) (eL ea (cutL l lo hi)) := fun e he => by
  show (f e).bind _ = _
  rw [ha e he]
  show (pl e).bind _ = _
  rw [h1 e he]
  show (ph e).bind _ = _
  rw [h2 e he, R.bind_ok, slD_lst, if_pos hc, cutL_map]
theorem se_slSp {pl ph : List D → R (Option Int)} {z : Str} {lo hi : Option Int} (ha : SP p f (.str z)) (h1 : SOp p pl lo) (h2 : SOp p ph hi) : SE p (eSlS f pl ph) (cutSR z lo hi) D.str := fun e he => by
  show Ref ((f e).bind _) _
  rw [ha e he]
  show Ref ((pl e).bind _) _
  rw [h1 e he]
  show Ref ((ph e).bind _) _
  rw [h2 e he, R.bind_ok, slS_str]
  exact ref_iteR rfl
theorem sn_app {i : Nat} {l : List α} {r : R α} {P : List α → Pat} (hg : p[i]? = some (some (.lst (l.map ea)))) (h : SE p f r ea) (hP : ∀ x, P x = p.set i (some (eL ea x)) := by intro _; rfl) : SN p (sOwn i gApp (aCons f aNil)) (r.bind fun x => appR l x) P := by
  have h1 := sa_consE h (sa_nilE (p := p))
  have h2 := sn_own (k := gApp) (P := P) hg h1 (T := fun t => appR l t.1) (fun t => k_app l t.1) hP
  intro e he
  rcases h2 e he with z | ⟨c, z, k⟩ | ⟨y, e', z, k, m⟩
  · refine .inl ?_
    rw [← z, R.bind_assoc]
    cases r <;> rfl
  · refine .inr (.inl ⟨c, ?_, k⟩)
    rw [← z, R.bind_assoc]
    cases r <;> rfl
  · refine .inr (.inr ⟨y, e', ?_, k, m⟩)
    rw [← z, R.bind_assoc]
    cases r <;> rfl
theorem sn_appP {i : Nat} {l : List α} {x : α} {P : List α → Pat} (hg : p[i]? = some (some (.lst (l.map ea)))) (h : SP p f (ea x)) (hP : ∀ x, P x = p.set i (some (eL ea x)) := by intro _; rfl) : SN p (sOwn i gApp (aCons f aNil)) (appR l x) P := sn_app (r := .ok x) hg h.se hP
theorem sn_clear {i : Nat} {l : List α} {P : List α → Pat} (hg : p[i]? = some (some (.lst (l.map ea)))) (hP : ∀ x, P x = p.set i (some (eL ea x)) := by intro _; rfl) : SN p (sOwn i gClear aNil) (R.ok ([] : List α)) P := sn_own (rs := .ok ()) (T := fun _ => R.ok []) hg sa_nilE (fun _ => k_clear _) hP
theorem sn_rev {i : Nat} {l : List α} {P : List α → Pat} (hg : p[i]? = some (some (.lst (l.map ea)))) (hP : ∀ x, P x = p.set i (some (eL ea x)) := by intro _; rfl) : SN p (sOwn i gRev aNil) (R.ok l.reverse) P := sn_own (rs := .ok ()) (T := fun _ => R.ok l.reverse) hg sa_nilE (fun _ => k_rev l) hP
def eqAR (a b : D) : R Bool := ofO (eqD a b)
theorem k_eqA (a b : D) : Ref (ofO (gEq a b)) ((eqAR a b).map D.bl) := .inr (by unfold gEq eqAR; rw [ofO_map])
def neAR (a b : D) : R Bool := ofO ((eqD a b).map (!·))
theorem k_neA (a b : D) : Ref (ofO (gNe a b)) ((neAR a b).map D.bl) := .inr (by unfold gNe neAR; cases eqD a b <;> rfl)
/-! ### try -/
def tryT {σ : Type} (cs : List Str) (s : R σ) (h : Str → R σ) : R σ := match s with
  | .ex c => if c ∈ cs then noX (h c) else .bad
  | .ok y => .ok y
  | .bad => .bad
theorem sn_try {cs : List Str} {i : Nat} {s1 : R σ} {h : Str → R σ} (h1 : SN p g1 s1 P) (h2 : ∀ c, SN (p.set i (some (.str c))) g2 (h c) P) : SN p (sTry cs g1 i g2) (tryT cs s1 h) P := fun e he => by
  rcases h1 e he with z | ⟨c, z, k⟩ | ⟨y, e', z, k, m⟩
  · subst z; exact .inl rfl
  · subst z
    have e1 : sTry cs g1 i g2 e = if c ∈ cs then noX (g2 (e.set i (.str c))) else .bad := by show tryR _ (g1 e) = _; rw [k]; rfl
    have e2 : tryT cs (R.ex c) h = if c ∈ cs then noX (h c) else .bad := rfl
    rw [e1, e2]
    by_cases hc : c ∈ cs
    · rw [if_pos hc, if_pos hc]
      rcases h2 c _ (he.set i) with z | ⟨c', z, k⟩ | ⟨y, e', z, k, m⟩
      · rw [z]; exact .inl rfl
      · rw [z]; exact .inl rfl
      · rw [z, k]; exact .inr (.inr ⟨y, e', rfl, rfl, m⟩)
    · rw [if_neg hc, if_neg hc]; exact .inl rfl
  · subst z
    exact .inr (.inr ⟨y, e', rfl, by show tryR _ (g1 e) = _; rw [k]; rfl, m⟩)
theorem sp_isE {j : Nat} {y c : Str} (h : p[j]? = some (some (.str c))) : SP p (eIsE j y) (.bl (kinB c y)) := fun e he => by
  show (ofO e[j]?).bind _ = _
  rw [he.get h]
  rfl
theorem sp_isT {j : Nat} {zs : List Str} {c : Str} (h : p[j]? = some (some (.str c))) : SP p (eIsT j zs) (.bl (zs.any fun y => kinB c y)) := fun e he => by
  show (ofO e[j]?).bind _ = _
  rw [he.get h]
  rfl
theorem sp_isV {j : Nat} {c : Str} (h : p[j]? = some (some (.str c))) : SP p (eIsV j) (.bl true) := fun e he => by
  show (ofO e[j]?).bind _ = _
  rw [he.get h]
  rfl
theorem se_callX {j : Nat} {c : Str} {M : List D → R D} {T : R α} (h : p[j]? = some (some (.str c))) (hm : Ref (M [.str c]) (T.map ea)) : SE p (eCallE M j) T ea := fun e he => by
  show Ref ((ofO e[j]?).bind _) _
  rw [he.get h]
  exact hm
end
end L2.VL
namespace L2.VL
open PySem PySem.Spec PyProof.Rows
section
variable {p : Pat} {α β γ : Type} {ea : α → D} {eb : β → D} {ec : γ → D} {f g : List D → R D}
theorem se_opC {k : D → D → Option D} {ra : R α} {d : D} {h : α → R γ} (ha : SE p f ra ea) (hb : SP p g d) (hk : ∀ x, Ref (ofO (k (ea x) d)) ((h x).map ec)) : SE p (eOp k f g) (ra.bind h) ec := fun e he => by
  refine (ha e he).bind fun x => ?_
  rw [hb e he]
  exact hk x
theorem se_opC' {k : D → D → Option D} {rb : R β} {d : D} {h : β → R γ} (ha : SP p f d) (hb : SE p g rb eb) (hk : ∀ y, Ref (ofO (k d (eb y))) ((h y).map ec)) : SE p (eOp k f g) (rb.bind h) ec := fun e he => by
  show Ref ((f e).bind _) _
  rw [ha e he]
  exact (hb e he).bind hk
end
end L2.VL
namespace L2.VL
open PySem PySem.Spec PyProof.Rows
section
variable {p p' : Pat} {α ρ : Type} {ea : α → D} {g : List D → R Fl} {t : D → List D → Option (List D)} {Pt : α → Pat}
theorem TGs.le (h : PLe p' p) (k : TGs t ea p' Pt) : TGs t ea p Pt := fun x e he => k x e (EM.le h he)
theorem run_u {n : Nat} {ds : List D} {s : R Unit} {P : Unit → Pat} (h : SN p g s P) (hp : EM p (ds ++ List.replicate (n - ds.length) .non)) : Ref (runF n g ds) (s.map eU) := by
  show Ref ((g _).bind _) _
  rcases h _ hp with h | ⟨c, h, k⟩ | ⟨y, e', h, k, m⟩
  · subst h; exact .inl rfl
  · subst h; rw [k]; exact .inr rfl
  · subst h; rw [k]; exact .inr rfl
end
theorem law_impN {P : Program} {w : World} {K : PySem.W.Frag} {mg : Str → Option Value} {base : Heap} {k : Nat} {f : Addr} {fd : FuncData} {ps : List Str} {F : Nat → List D → R D}
    (hl : ∀ ns : List Int, ns.length ≤ 63 → (∀ z ∈ ns, Builtin.Int.intBits z ≤ 1048576) → ∃ n, F n [.lst (ns.map D.int)] = .ok (.bl true))
    (h : ∀ n, FnOk P w K mg base (L2.CX P w) k f fd ps (spF K mg [.ar] .im (F n))) : FnOk P w K mg base (L2.CX P w) k f fd ps (spLaw K) := by
  classical
  let F' : List D → R D := fun ds => if ∃ ns : List Int, ns.length ≤ 63 ∧ (∀ z ∈ ns, Builtin.Int.intBits z ≤ 1048576) ∧ ds = [.lst (ns.map D.int)] then .ok (.bl true) else .bad
  refine law_imp (F := F') (fun ns h1 h2 => if_pos ⟨ns, h1, h2, rfl⟩) (FnOk.spec h fun ds => ?_)
  by_cases hd : ∃ ns : List Int, ns.length ≤ 63 ∧ (∀ z ∈ ns, Builtin.Int.intBits z ≤ 1048576) ∧ ds = [.lst (ns.map D.int)]
  · obtain ⟨ns, h1, h2, rfl⟩ := hd
    obtain ⟨n, hn⟩ := hl ns h1 h2
    exact .inr ⟨n, hn.trans (if_pos ⟨ns, h1, h2, rfl⟩).symm⟩
  · exact .inl (if_neg hd)
theorem M_of_T {M : List D → R D} {T : R Bool} {ds : List D} (h : Ref (M ds) (T.map D.bl)) (ht : T = .ok true) : M ds = .ok (.bl true) := by
  rw [ht] at h
  exact h.ok
end L2.VL
set_option Elab.async false
set_option linter.all false
set_option maxRecDepth 100000
set_option maxHeartbeats 4000000
namespace L2.VL
open PySem PySem.Spec PyProof.Rows
/-! ### a, b, .. = e -/
@[simp] def sUnp (t : D → List D → Option (List D)) (f : List D → R D) (e : List D) : R Fl := (f e).bind fun d => (ofO (t d e)).bind fun e1 => .ok (.nx e1)
section
variable {X : Cx} {G G1 : List Md} {W : WX} {rm : Rm} {pos : Pos} {tg a : Expr} {t : D → List D → Option (List D)} {f : List D → R D} {m : Pm} {is : List Nat}
theorem vs_unp (he : PE X a (vE X.K X.mg G W (pmT m) f)) (hg : PG X tg (vG X.K m is G G1 t)) (hs : swapsWithSole [tg] a pos.line X.env = pure false := by rfl) (hw : swappedStores [tg] a X.env = pure none := by rfl)
    (h1 : (assignEach [tg] X.env).map (·.2) = [assign tg X.env] := by rfl) : PS X (.Assign [tg] a pos) (vS X.K X.mg G G1 W rm (sUnp t f)) := by
  refine ps_weak (ps_asg he hg hs hw h1) fun Dn sg H ⟨B0, H0, B, e, S, k⟩ => ?_
  refine seq1 (P := KS X.K X.mg G1 W rm B0 H0 B Dn) S k (fun c k => ks_ex S k) (fun k => k) fun B1 H1 x d x1 S1 r1 k1 => ?_
  refine ⟨B0, H0, B1, e, d, S1, RepP.of r1, ?_⟩
  cases et : t d e with
  | none => rw [et] at k1; exact k1.elim
  | some e1 =>
    rw [et] at k1
    intro sg1 S2 _
    exact k1 sg1 B1 H1 S2 x1.b
end
section
variable {p : Pat} {α : Type} {ea : α → D} {f : List D → R D} {t : D → List D → Option (List D)} {P : α → Pat}
theorem sn_unp {r : R α} (h : SE p f r ea) (ht : TGs t ea p P) : SN p (sUnp t f) r P := fun e he => by
  have g := h e he
  cases r with
  | bad => exact .inl rfl
  | ex c => exact .inr (.inl ⟨c, rfl, by show (f e).bind _ = _; rw [g.ex]; rfl⟩)
  | ok x =>
    obtain ⟨e1, h1, h2⟩ := ht x e he
    exact .inr (.inr ⟨x, e1, rfl, by show (f e).bind _ = _; rw [g.ok]; show (ofO (t (ea x) e)).bind _ = _; rw [h1]; rfl, h2⟩)
end
/-! ### text times number -/
def repS (x : Str) (n : Int) : Str := ⟨(List.replicate n.toNat x.cps).foldl (· ++ ·) #[]⟩
def mulSok (x : Str) (n : Int) : Prop := -(2 ^ 63) ≤ n ∧ n < 2 ^ 63 ∧ x.length * n.toNat ≤ sizeLine
instance (x : Str) (n : Int) : Decidable (mulSok x n) := by unfold mulSok; infer_instance
def gMulS : D → D → Option D
  | .str x, .int n => if mulSok x n then some (.str (repS x n)) else none
  | _, _ => none
@[simp] theorem gMulS_str (x : Str) (n : Int) : gMulS (.str x) (.int n) = if mulSok x n then some (.str (repS x n)) else none := rfl
theorem fold_app : ∀ (l : List (Array Nat)) (a : Array Nat), (l.foldl (· ++ ·) a).toList = a.toList ++ (l.map (·.toList)).flatten
  | [], a => by simp
  | b :: l, a => by
    rw [List.foldl_cons, fold_app l (a ++ b)]
    simp
theorem repS_list (x : Str) (n : Int) : (repS x n).cps.toList = (List.replicate n.toNat x.cps.toList).flatten := by
  show ((List.replicate n.toNat x.cps).foldl (· ++ ·) #[]).toList = _
  rw [fold_app, List.map_replicate]
  rfl
theorem str_ext {x y : Str} (h : x.cps.toList = y.cps.toList) : x = y := by
  obtain ⟨⟨a⟩⟩ := x
  obtain ⟨⟨b⟩⟩ := y
  cases (show a = b from h)
  rfl
def rMulS : R2 := fun x y H Q => ∃ a n, x = .str a ∧ y = .int n ∧ mulSok a n ∧ Q (.str (repS a n)) H
theorem op_mulS {X : Cx} : OpR X (binaryOp .Mult) rMulS := by
  intro pins s sg H x y v u Q I rx ry hh
  obtain ⟨a, n, rfl, rfl, ⟨h1, h2, h3⟩, q⟩ := hh
  obtain ⟨t, rfl⟩ := rx
  obtain ⟨t', rfl⟩ := ry
  refine P.mul_str (by rw [decide_eq_false (by omega), decide_eq_false (by omega)]; rfl) (fun g1 g2 => ?_) (fun g1 g2 => ?_) ?_
  · have hz : sizeLine = 16777216 := by decide
    rw [hz] at h3
    intro g
    have hn : (0 : Int) < n := by omega
    have h4 : ((2 ^ 63 - 1) / n + 1 : Int) ≤ (a.length : Int) := by omega
    have h5 : (2 ^ 63 - 1 : Int) < ((2 ^ 63 - 1) / n + 1) * n := by
      have := Int.lt_ediv_add_one_mul_self (2 ^ 63 - 1) hn
      exact this
    have h6 : ((2 ^ 63 - 1) / n + 1) * n ≤ (a.length : Int) * n := Int.mul_le_mul_of_nonneg_right h4 (by omega)
    have h7 : (a.length : Int) * n = ((a.length * n.toNat : Nat) : Int) := by
      rw [Int.natCast_mul]
      congr 1
      omega
    omega
  · exact decide_eq_false (by omega)
  · by_cases g1 : n < 1
    · rw [if_pos g1]
      refine ⟨by decide, ?_⟩
      have e : repS a n = Str.empty := by
        refine str_ext ?_
        rw [repS_list, show n.toNat = 0 by omega]
        rfl
      exact ⟨.str (repS a n), H, I.tok _, ⟨_, by rw [e]⟩, q⟩
    · rw [if_neg g1]
      by_cases g2 : (n == 1 || a.length == 0) = true
      · rw [if_pos g2]
        have e : repS a n = a := by
          refine str_ext ?_
          rw [repS_list]
          rw [Bool.or_eq_true, beq_iff_eq, beq_iff_eq] at g2
          rcases g2 with g2 | g2
          · rw [g2]
            simp
          · have : a.cps.toList = [] := List.eq_nil_of_length_eq_zero (by rw [Array.length_toList]; exact g2)
            rw [this]
            simp
        exact ⟨.str (repS a n), H, I, ⟨_, by rw [e]⟩, q⟩
      · rw [if_neg g2]
        refine ⟨?_, ⟨.str (repS a n), H, I.tok _, ⟨_, rfl⟩, q⟩⟩
        have e : (repS a n).length = a.length * n.toNat := by
          show (repS a n).cps.size = _
          rw [← Array.length_toList, repS_list, List.length_flatten, List.map_replicate, List.sum_replicate_nat, Array.length_toList, Nat.mul_comm]
          rfl
        show (repS a n).length ≤ sizeLine
        omega
theorem d_mulS {K : PySem.W.Frag} : Does2 K rMulS gMulS := by
  intro H x y d1 d2 d Q r1 r2 e q
  cases r1 with
  | str a =>
    cases r2 with
    | int n =>
      rw [gMulS_str] at e
      split at e
      · cases e
        exact ⟨a, n, rfl, rfl, by assumption, q _ fun _ => .str _⟩
      · cases e
    | _ => cases e
  | _ => cases e
def mulSR (x : Str) (n : Int) : R Str := if mulSok x n then .ok (repS x n) else .bad
theorem k_mulS (x : Str) (n : Int) : Ref (ofO (gMulS (.str x) (.int n))) ((mulSR x n).map D.str) := ref_ite
/-! ### int of a bool, of a number -/
def gInt1 : List D → Option D
  | [.bl b] => some (.int (if b then 1 else 0))
  | [.int i] => some (.int i)
  | _ => none
theorem d_int1 {K : PySem.W.Frag} : DoesN K (fun xs H Q => (∃ i, xs = [.int i] ∧ Q (.int i) H) ∨ ∃ k, xs = [.bl k] ∧ Q (.int (if k then 1 else 0)) H) gInt1 := by
  intro H vs ds d Q r e q
  unfold gInt1 at e
  split at e
  · cases e
    obtain ⟨v, rfl, h⟩ := reps1 r
    cases h
    exact .inr ⟨_, rfl, q _ fun _ => .int _⟩
  · cases e
    obtain ⟨v, rfl, h⟩ := reps1 r
    cases h
    exact .inl ⟨_, rfl, q _ fun _ => .int _⟩
  · cases e
/-! ### xs.index(x), t.index(x) -/
def idxIn (x : D) : List D → Option Nat
  | [] => none
  | y :: ys => if eqFl y x then some 0 else (idxIn x ys).map (· + 1)
def gIdx (ds : List D) (x : D) : Option D := if flatD x && ds.all flatD then (idxIn x ds).map fun (j : Nat) => D.int (j : Int) else none
def gIdxS (ds : List D) : D → Option D
  | .str z => (asStrs ds).bind fun ys => (idxIn (.str z) ds).map fun (j : Nat) => D.int (j : Int)
  | _ => none
@[simp] def eIdxL (fo fa : List D → R D) (e : List D) : R D := (fo e).bind fun d => (lstOf d).bind fun ds => (fa e).bind fun y => ofO (gIdx ds y)
@[simp] def eIdxT (fo fa : List D → R D) (e : List D) : R D := (fo e).bind fun d => (tupOf d).bind fun ds => (fa e).bind fun y => ofO (gIdxS ds y)
theorem idxIn_get {x : D} : ∀ {ds : List D} {j : Nat}, idxIn x ds = some j → ∃ y, ds[j]? = some y ∧ eqFl y x = true ∧ ∀ (m : Nat) z, m < j → ds[m]? = some z → eqFl z x = false
  | [], _, h => by cases h
  | y :: ys, j, h => by
    unfold idxIn at h
    by_cases e : eqFl y x = true
    · rw [if_pos e] at h
      cases h
      exact ⟨y, rfl, e, fun m z hm => absurd hm (Nat.not_lt_zero m)⟩
    · rw [if_neg e] at h
      cases e2 : idxIn x ys with
      | none => rw [e2] at h; cases h
      | some i =>
        rw [e2] at h
        cases h
        obtain ⟨z, h1, h2, h3⟩ := idxIn_get e2
        refine ⟨z, by simpa using h1, h2, fun m w hm hw => ?_⟩
        cases m with
        | zero =>
          cases hw
          exact Bool.eq_false_iff.mpr e
        | succ m => exact h3 m w (Nat.lt_of_succ_lt_succ hm) (by simpa using hw)
section
variable {X : Cx} {G : List Md} {W : WX} {pos apos : Pos} {o a : Expr} {fo fa : List D → R D} {mo ma : Tg}
theorem ve_idxL (ho : PE X o (vE X.K X.mg G W mo fo)) (ha : PE X a (vE X.K X.mg G W ma fa)) (hbase : attributeBase o "index" X.env (eval o X.env) = eval o X.env := by rfl)
    (hfew : ((backTo pos (starEach [a] X.env)).all (fun x => !x.1) && (backToKw pos (keywordEach [] X.env)).all (fun x => x.1.isSome)
      && decide (([a] : List Expr).length + ([] : List Keyword).length + (if ([] : List Keyword).isEmpty then 0 else 1) < 30)) = true := by rfl)
    (hline : (apos.endLine == pos.line) = true := by rfl) (hs : starEach [a] X.env = (false, eval a X.env) :: starEach [] X.env := by rfl) (hpl : (backTo pos (starEach [] X.env)).any (·.1) = false := by rfl) :
    PE X (.Call (.Attribute o "index" apos) [a] [] pos) (vE X.K X.mg G W .im (eIdxL fo fa)) := by
  refine pe_weak (pe_bm PySem.F.plainAttrs_list PySem.F.slot_list_index PySem.F.type_list_index mt_index ho (pa_cons ha pa_nil hs) hbase hfew hline hs hpl) fun sg H Q ⟨B0, H0, B, e, S, k⟩ => ?_
  refine seq1 (P := KE X.K X.mg W sg H0 B H Q .im) S k (fun c k => k) (fun k => k) fun B1 H1 x d x1 S1 r1 k1 => ?_
  have q1 := r1.all x1.s S1.ext.h
  cases d with
  | lst ds =>
    obtain ⟨p, vs, rfl, hp, hr⟩ := q1.sq
    refine ⟨.inl ⟨rfl, vs, hp⟩, ?_⟩
    refine seq1 (P := KE X.K X.mg W sg H0 B H Q .im) S1 k1 (fun c k B' H' a y hm => k B' H' a (x1.trans y) hm) (fun k => k) fun B2 H2 y dy x2 S2 r2 k2 => ?_
    have q2 := (r2.earlier x1.h).all x2.s S2.ext.h
    unfold gIdx at k2
    by_cases hf : (flatD dy && ds.all flatD) = true
    · rw [if_pos hf] at k2
      rw [Bool.and_eq_true] at hf
      cases ei : idxIn dy ds with
      | none => rw [ei] at k2; exact k2.elim
      | some j =>
        rw [ei] at k2
        obtain ⟨z, h1, h2, h3⟩ := idxIn_get ei
        have hr2 := Reps.mono x2.h hr
        obtain ⟨zv, hz, rz⟩ := hr2.get h1
        have fz : flatD z = true := List.all_eq_true.mp hf.2 z (List.mem_of_getElem? h1)
        refine ⟨p, vs, y, j, zv, rfl, rfl, x2.h.seq hp, flat_v q2 hf.1, flat_vs hr2 hf.2, hz, by rw [eq_v rz q2 fz hf.1]; exact h2, fun m z' hm hz' => ?_, k2 B2 H2 _ (x1.trans x2) (.int _)⟩
        obtain ⟨d', hd', rd'⟩ := hr2.getV hz'
        have fd : flatD d' = true := List.all_eq_true.mp hf.2 d' (List.mem_of_getElem? hd')
        rw [eq_v rd' q2 fd hf.1]
        exact h3 m d' hm hd'
    · rw [if_neg hf] at k2; exact k2.elim
  | _ => exact k1.elim
/-- a method of a tuple of one's own making -/
def tBMT (r : V → List V → Hp → VK → Prop) (to : TE) (t : TA) : TE := fun sg H Q => to sg H fun x H1 => (∃ p vs, x = .ref p ∧ TupAt H1 p vs) ∧ t sg H1 fun xs H2 => r x xs H2 Q
theorem pe_bmT {id : String} {name : Str} {r : V → List V → Hp → VK → Prop} {es : List Expr} {to : TE} {t : TA} (slot : PySem.Slot "tuple" name id) (hty : typeOf (.builtin id) = pure (.type "method_descriptor")) (hm : MtR X id r) (ho : PE X o to) (ha : PA X (a :: es) t)
    (hbase : attributeBase o name X.env (eval o X.env) = eval o X.env := by rfl)
    (hfew : ((backTo pos (starEach (a :: es) X.env)).all (fun x => !x.1) && (backToKw pos (keywordEach [] X.env)).all (fun x => x.1.isSome)
      && decide ((a :: es).length + ([] : List Keyword).length + (if ([] : List Keyword).isEmpty then 0 else 1) < 30)) = true := by rfl)
    (hline : (apos.endLine == pos.line) = true := by rfl) (hs : starEach (a :: es) X.env = (false, eval a X.env) :: starEach es X.env := by rfl) (hplain : (backTo pos (starEach es X.env)).any (·.1) = false := by rfl) :
    PE X (.Call (.Attribute o name apos) (a :: es) [] pos) (tBMT r to t) := by
  refine ⟨fun pins s σ H Q I h => ?_⟩
  refine wpAny_Call_method_late hbase hfew hline rfl (thn (ho.run pins s σ H _ I h) fun v s1 ⟨x, H1, I1, r1, ty, q1⟩ => ?_)
  obtain ⟨pp, vs, rfl, ob, hob, hod⟩ := ty
  cases r1
  have hh : s1.heap.get? pp = some ob ∧ ob.cls = .type "tuple" := by
    obtain ⟨hg, _, its, rv, o', h1, h2, n, h3⟩ := (show ObjOk X.prog X.w H1 s1.heap pp (.frz ob (.tup vs)) from I1.hok pp _ hob)
    have e := Option.some.inj (hg.symm.trans h1)
    subst e
    exact ⟨hg, h2⟩
  refine ⟨"tuple", id, PySem.F.plainAttrs_tuple, slot, hty, ⟨ob, hh.1, hh.2⟩, fun a' e' => by cases e'; exact ⟨ob, hh.1, hod⟩, ?_⟩
  have hA := ha.run pos pins s1 σ H1 _ I1 q1
  rw [hs] at hA ⊢
  refine Calls.callWith_builtin (by show (false || (backTo pos (starEach es X.env)).any (·.1)) = false; rw [hplain] <;> rfl) (Calls.evalArgs_plain ?_)
  exact thn hA fun us s2 ⟨vs, H2, I2, r2, q2⟩ => hm pins s2 σ H2 (.ref pp) vs _ us Q I2 rfl r2 q2
theorem ve_idxT (ho : PE X o (vE X.K X.mg G W mo fo)) (ha : PE X a (vE X.K X.mg G W ma fa)) (hbase : attributeBase o "index" X.env (eval o X.env) = eval o X.env := by rfl)
    (hfew : ((backTo pos (starEach [a] X.env)).all (fun x => !x.1) && (backToKw pos (keywordEach [] X.env)).all (fun x => x.1.isSome)
      && decide (([a] : List Expr).length + ([] : List Keyword).length + (if ([] : List Keyword).isEmpty then 0 else 1) < 30)) = true := by rfl)
    (hline : (apos.endLine == pos.line) = true := by rfl) (hs : starEach [a] X.env = (false, eval a X.env) :: starEach [] X.env := by rfl) (hpl : (backTo pos (starEach [] X.env)).any (·.1) = false := by rfl) :
    PE X (.Call (.Attribute o "index" apos) [a] [] pos) (vE X.K X.mg G W .im (eIdxT fo fa)) := by
  refine pe_weak (pe_bmT PySem.F.slot_tuple_index PySem.F.type_tuple_index mt_tup_index ho (pa_cons ha pa_nil hs) hbase hfew hline hs hpl) fun sg H Q ⟨B0, H0, B, e, S, k⟩ => ?_
  refine seq1 (P := KE X.K X.mg W sg H0 B H Q .im) S k (fun c k => k) (fun k => k) fun B1 H1 x d x1 S1 r1 k1 => ?_
  have q1 := r1.all x1.s S1.ext.h
  cases q1 with
  | tup hp hr =>
    rename_i p vs ds
    refine ⟨⟨p, vs, rfl, hp⟩, ?_⟩
    refine seq1 (P := KE X.K X.mg W sg H0 B H Q .im) S1 k1 (fun c k B' H' a y hm => k B' H' a (x1.trans y) hm) (fun k => k) fun B2 H2 y dy x2 S2 r2 k2 => ?_
    have q2 := (r2.earlier x1.h).all x2.s S2.ext.h
    cases q2 with
    | str z =>
      have k2 : KE X.K X.mg W sg H0 B H Q .im (ofO ((asStrs ds).bind fun ys => (idxIn (.str z) ds).map fun (j : Nat) => D.int (j : Int))) := k2
      cases es : asStrs ds with
      | none => rw [es] at k2; exact k2.elim
      | some ys =>
        rw [es] at k2
        have k2 : KE X.K X.mg W sg H0 B H Q .im (ofO ((idxIn (.str z) ds).map fun (j : Nat) => D.int (j : Int))) := k2
        have ed := asStrs_eq es
        subst ed
        cases ei : idxIn (.str z) (ys.map D.str) with
        | none => rw [ei] at k2; exact k2.elim
        | some j =>
          rw [ei] at k2
          obtain ⟨w, h1, h2, h3⟩ := idxIn_get ei
          have ev := reps_strs_of hr
          rw [List.getElem?_map] at h1
          have hy : ys[j]? = some z := by
            cases ey : ys[j]? with
            | none => rw [ey] at h1; cases h1
            | some y' =>
              rw [ey] at h1
              cases h1
              have : (y' == z) = true := h2
              rw [beq_iff_eq] at this
              rw [this]
          refine ⟨p, ys, z, j, rfl, rfl, .inl (same_rd x2.h (by rw [← ev]; exact hp.rd)), hy, fun m hm hz => ?_, k2 B2 H2 _ (x1.trans x2) (.int _)⟩
          have h4 := h3 m (.str z) hm (by rw [List.getElem?_map, hz]; rfl)
          have : (z == z) = false := h4
          simp at this
    | _ => exact k2.elim
  | _ => exact k1.elim
end
section
variable {p : Pat} {α β τ : Type} {ea : α → D} {f g : List D → R D}
def idxR {α : Type} [DecidableEq α] (l : List α) (x : α) : R Int := if x ∈ l then .ok (l.idxOf x) else .bad
theorem idxIn_map [DecidableEq α] (F : Flt ea) (x : α) : ∀ l : List α, idxIn (ea x) (l.map ea) = if x ∈ l then some (l.idxOf x) else none
  | [] => rfl
  | y :: l => by
    rw [List.map_cons, idxIn, idxIn_map F x l]
    by_cases e : y = x
    · subst e
      rw [if_pos ((F.eq y y).mpr rfl), if_pos List.mem_cons_self, List.idxOf_cons_self]
    · rw [if_neg (fun h => e ((F.eq y x).mp h))]
      have e2 : ¬ x = y := fun z => e z.symm
      by_cases hx : x ∈ l
      · rw [if_pos hx, if_pos (List.mem_cons_of_mem _ hx), List.idxOf_cons]
        have : (y == x) = false := beq_eq_false_iff_ne.mpr e
        rw [this]
        rfl
      · rw [if_neg hx, if_neg (fun h => (List.mem_cons.mp h).elim e2 hx)]
        rfl
theorem k_idxL [DecidableEq α] (F : Flt ea) (l : List α) (x : α) : Ref (ofO (gIdx (l.map ea) (ea x))) ((idxR l x).map D.int) := by
  unfold gIdx idxR
  rw [F.fl, F.all, Bool.and_self, if_pos rfl, idxIn_map F]
  by_cases h : x ∈ l
  · rw [if_pos h, if_pos h]; exact .inr rfl
  · rw [if_neg h, if_neg h]; exact .inl rfl
theorem k_idxT (l : List Str) (x : Str) : Ref (ofO (gIdxS (l.map D.str) (.str x))) ((idxR l x).map D.int) := by
  show Ref (ofO ((asStrs (l.map D.str)).bind _)) _
  rw [asStrs_map]
  show Ref (ofO ((idxIn (.str x) (l.map D.str)).map _)) _
  unfold idxR
  rw [idxIn_map flt_str]
  by_cases h : x ∈ l
  · rw [if_pos h, if_pos h]; exact .inr rfl
  · rw [if_neg h, if_neg h]; exact .inl rfl
theorem se_idxL [DecidableEq α] (F : Flt ea) {ra : R (List α)} {rb : R α} (ha : SE p f ra (eL ea)) (hb : SE p g rb ea) : SE p (eIdxL f g) (ra.bind fun l => rb.bind fun x => idxR l x) D.int :=
  fun e he => (ha e he).bind fun l => (hb e he).bind fun x => k_idxL F l x
theorem se_idxT {ra : R (List Str)} {rb : R Str} (ha : SE p f ra (eT D.str)) (hb : SE p g rb D.str) : SE p (eIdxT f g) (ra.bind fun l => rb.bind fun x => idxR l x) D.int :=
  fun e he => (ha e he).bind fun l => (hb e he).bind fun x => k_idxT l x
end
/-! ### x += n, x *= n -/
def gIAdd : D → D → Option D := gI fun i j => some (.int (i + j))
theorem d_iadd {K : PySem.W.Frag} : Does2 K (rI0 fun i j => .int (i + j)) gIAdd := does_I0 fun i j d e B => by cases e; exact .int _
theorem k_iadd (x y : Int) : Ref (ofO (gIAdd (.int x) (.int y))) ((R.ok (x + y)).map D.int) := .inr rfl
end L2.VL
set_option Elab.async false
set_option linter.all false
set_option maxRecDepth 100000
set_option maxHeartbeats 4000000
namespace L2.VL
open PySem PySem.Spec PyProof.Rows
/-! ## dicts -/
def keyD : D → Option Key
  | .int i => some (.inl i)
  | .str x => some (.inr x)
  | _ => none
@[simp] theorem keyD_int (i : Int) : keyD (.int i) = some (.inl i) := rfl
@[simp] theorem keyD_str (x : Str) : keyD (.str x) = some (.inr x) := rfl
def kD : Key → D
  | .inl i => .int i
  | .inr x => .str x
theorem key_rep {c : Bool} {K : PySem.W.Frag} {H : Hp} {v : V} {d : D} {k : Key} (r : Rep c K H v d) (h : keyD d = some k) : v = kV k := by
  cases r <;> first | (cases h; rfl) | cases h
theorem kD_rep {c : Bool} {K : PySem.W.Frag} {B : Hp} (k : Key) : Rep c K B (kV k) (kD k) := by
  cases k with
  | inl i => exact .int i
  | inr x => exact .str x
def valD {κ α : Type} [DecidableEq κ] (kds : List (κ × α)) (k : κ) : Option α := (kds.find? fun kv => decide (kv.1 = k)).map (·.2)
def putD {κ α : Type} [DecidableEq κ] (kds : List (κ × α)) (k : κ) (v : α) : List (κ × α) := if kds.any (fun kv => decide (kv.1 = k)) then kds.map (fun kv => if kv.1 = k then (kv.1, v) else kv) else kds ++ [(k, v)]
def dropD {κ α : Type} [DecidableEq κ] (kds : List (κ × α)) (k : κ) : List (κ × α) := kds.filter fun kv => decide (kv.1 ≠ k)
section
variable {c : Bool} {K : PySem.W.Frag} {B : Hp}
theorem RepKs.length : ∀ {kvs : List (Key × V)} {kds : List (Key × D)}, RepKs c K B kvs kds → kvs.length = kds.length
  | _, _, .nil => rfl
  | _, _, .cons _ r => congrArg (· + 1) r.length
theorem RepKs.val (k : Key) : ∀ {kvs : List (Key × V)} {kds : List (Key × D)}, RepKs c K B kvs kds → (valV kvs k = none ∧ valD kds k = none) ∨ ∃ v d, valV kvs k = some v ∧ valD kds k = some d ∧ Rep c K B v d
  | _, _, .nil => .inl ⟨rfl, rfl⟩
  | _, _, .cons (k := k') (v := v) (d := d) (kvs := kvs) (kds := kds) h r => by
    by_cases e : k' = k
    · subst e
      exact .inr ⟨v, d, valV_pos rfl, by simp [valD], h⟩
    · have e1 : valV ((k', v) :: kvs) k = valV kvs k := valV_neg e
      have e2 : valD ((k', d) :: kds) k = valD kds k := by simp [valD, e]
      rw [e1, e2]
      exact RepKs.val k r
theorem RepKs.any (k : Key) : ∀ {kvs : List (Key × V)} {kds : List (Key × D)}, RepKs c K B kvs kds → (kvs.any fun kv => decide (kv.1 = k)) = kds.any fun kv => decide (kv.1 = k)
  | _, _, .nil => rfl
  | _, _, .cons _ r => by rw [List.any_cons, List.any_cons, RepKs.any k r]
theorem RepKs.repl {v : V} {d : D} (k : Key) (h : Rep c K B v d) : ∀ {kvs : List (Key × V)} {kds : List (Key × D)}, RepKs c K B kvs kds → RepKs c K B (kvs.map fun kv => if kv.1 = k then (kv.1, v) else kv) (kds.map fun kv => if kv.1 = k then (kv.1, d) else kv)
  | _, _, .nil => .nil
  | _, _, .cons (k := k') h' r => by
    rw [List.map_cons, List.map_cons]
    by_cases e : k' = k
    · rw [if_pos e, if_pos e]; exact .cons h (RepKs.repl k h r)
    · rw [if_neg e, if_neg e]; exact .cons h' (RepKs.repl k h r)
theorem RepKs.snoc {v : V} {d : D} (k : Key) (h : Rep c K B v d) : ∀ {kvs : List (Key × V)} {kds : List (Key × D)}, RepKs c K B kvs kds → RepKs c K B (kvs ++ [(k, v)]) (kds ++ [(k, d)])
  | _, _, .nil => .cons h .nil
  | _, _, .cons h' r => .cons h' (RepKs.snoc k h r)
theorem RepKs.put {v : V} {d : D} {kvs : List (Key × V)} {kds : List (Key × D)} (r : RepKs c K B kvs kds) (k : Key) (h : Rep c K B v d) : RepKs c K B (putK kvs k v) (putD kds k d) := by
  unfold putK putD
  rw [RepKs.any k r]
  split
  · exact r.repl k h
  · exact r.snoc k h
theorem RepKs.drop (k : Key) : ∀ {kvs : List (Key × V)} {kds : List (Key × D)}, RepKs c K B kvs kds → RepKs c K B (dropK kvs k) (dropD kds k)
  | _, _, .nil => .nil
  | _, _, .cons (k := k') (v := v) (d := d) (kvs := kvs) (kds := kds) h r => by
    unfold dropK dropD
    by_cases e : k' = k
    · rw [List.filter_cons_of_neg (by simp [e]), List.filter_cons_of_neg (by simp [e])]
      exact RepKs.drop k r
    · rw [List.filter_cons_of_pos (by simp [e]), List.filter_cons_of_pos (by simp [e])]
      exact .cons h (RepKs.drop k r)
theorem RepKs.get : ∀ {kvs : List (Key × V)} {kds : List (Key × D)} {i : Nat} {k : Key} {d : D}, RepKs c K B kvs kds → kds[i]? = some (k, d) → ∃ v, kvs[i]? = some (k, v) ∧ Rep c K B v d
  | _, _, _, _, _, .nil, h => by simp at h
  | _, _, 0, _, _, .cons q _, h => by
    have e := Option.some.inj (show some _ = some _ from h)
    cases e
    exact ⟨_, rfl, q⟩
  | _, _, i + 1, _, _, .cons _ r, h => RepKs.get (i := i) r (by simpa using h)
end
/-- a dict, by its tag -/
theorem RepT.dic_at {K : PySem.W.Frag} {H0 H B H' : Hp} {m : Tg} {v : V} {kds : List (Key × D)} (r : RepT K H0 H B H' m v (.dic kds)) (s : Same B H') (s0 : Same H0 H') :
    ∃ p kvs, v = .ref p ∧ Rd H' p (.dK kvs) ∧ ∀ k, (valV kvs k = none ∧ valD kds k = none) ∨ ∃ x d, valV kvs k = some x ∧ valD kds k = some d ∧ RepT K H0 H B H' (elT m) x d := by
  have fin : ∀ {c : Bool} {Bx : Hp} {a : Addr} {kvs : List (Key × V)}, Rd H' a (.dK kvs) → RepKs c K Bx kvs kds → (∀ x d, Rep c K Bx x d → RepT K H0 H B H' (elT m) x d) → ∃ p kvs, V.ref a = .ref p ∧ Rd H' p (.dK kvs) ∧ ∀ k, (valV kvs k = none ∧ valD kds k = none) ∨ ∃ x d, valV kvs k = some x ∧ valD kds k = some d ∧ RepT K H0 H B H' (elT m) x d := by
    intro c Bx a kvs h q f
    refine ⟨a, kvs, rfl, h, fun k => ?_⟩
    rcases q.val k with ⟨h1, h2⟩ | ⟨x, d, h1, h2, h3⟩
    · exact .inl ⟨h1, h2⟩
    · exact .inr ⟨x, d, h1, h2, f x d h3⟩
  cases m with
  | im =>
    cases (show Rep false K B v (.dic kds) from r) with
    | dic h q =>
      obtain ⟨o, h⟩ := h
      exact fin (same_rd s (.inr ⟨o, h⟩)) q fun x d z => z
    | dko z _ _ => cases z
  | ar =>
    cases (show Rep true K H0 v (.dic kds) from r) with
    | dic h q =>
      obtain ⟨o, h⟩ := h
      exact fin (same_rd s0 (.inr ⟨o, h⟩)) q fun x d z => z
    | dko _ h q => exact fin (same_rd s0 h) q fun x d z => z
  | lo =>
    cases (show Rep true K H' v (.dic kds) from r) with
    | dic h q =>
      obtain ⟨o, h⟩ := h
      exact fin (.inr ⟨o, h⟩) q fun x d z => z
    | dko _ h q => exact fin h q fun x d z => z
  | fr =>
    obtain ⟨p, rfl, _, _, kvs, h, q⟩ := r
    exact fin (.inl h) q fun x d z => z
  | oc =>
    obtain ⟨p, rfl, kvs, h, q⟩ := r
    exact fin (.inl h) q fun x d z => z
/-! ### {} -/
section
variable {X : Cx} {G : List Md} {W : WX} {pos : Pos} {o a b : Expr} {fo fa fb : List D → R D} {mo ma mb : Tg}
theorem ve_dnew : PE X (.Dict [] [] pos) (vE X.K X.mg G W .fr (eC (.dic []))) := by
  refine pe_weak pe_dnewK fun sg H Q ⟨B0, H0, B, e, S, k⟩ p hp => ?_
  exact k B _ _ (.newH S.ext.s hp) ⟨p, rfl, hp, S.ext.s.free hp, [], upd_same, .nil⟩
/-! ### d[k] -/
def dgetD : D → D → R D
  | .dic kds, k => (ofO (keyD k)).bind fun k => ofO (valD kds k)
  | _, _ => .bad
@[simp] theorem dgetD_dic (kds : List (Key × D)) (k : D) : dgetD (.dic kds) k = (ofO (keyD k)).bind fun k => ofO (valD kds k) := rfl
@[simp] def eDGet (fo fk : List D → R D) (e : List D) : R D := (fo e).bind fun d => (fk e).bind fun k => dgetD d k
theorem ve_dget (hu : X.A.units + 1 < cLine) (ho : PE X o (vE X.K X.mg G W mo fo)) (ha : PE X a (vE X.K X.mg G W ma fa)) (hs : NoSl a := by exact fun _ _ => rfl) : PE X (.Subscript o a pos) (vE X.K X.mg G W (elT mo) (eDGet fo fa)) := by
  refine pe_weak (pe_dget hu ho ha hs) fun sg H Q h => ?_
  refine seq2 (kk := fun d k => dgetD d k) h fun B0 H0 B e B2 H2 x y d1 d2 S S2 x2 r1 r2 k => ?_
  have s0 : Same H0 H2 := S2.ext.h
  have q2 := r2.all x2.s s0
  cases d1 with
  | dic kds =>
    rw [dgetD_dic] at k
    cases ek : keyD d2 with
    | none => rw [ek] at k; exact k.elim
    | some kk =>
      rw [ek] at k
      obtain ⟨p, kvs, rfl, hp, hv⟩ := r1.dic_at x2.s s0
      rcases hv kk with ⟨h1, h2⟩ | ⟨z, d, h1, h2, h3⟩
      · have k : KE X.K X.mg W sg H0 B H Q (elT mo) (ofO (valD kds kk)) := k
        rw [h2] at k; exact k.elim
      · have k : KE X.K X.mg W sg H0 B H Q (elT mo) (ofO (valD kds kk)) := k
        rw [h2] at k
        exact ⟨p, z, rfl, .inl ⟨kvs, kk, hp, key_rep q2 ek, h1.symm⟩, k B2 H2 z x2 h3⟩
  | _ => exact k.elim
/-! ### k in d -/
def dinD (n : Bool) : D → D → R D
  | k, .dic kds => (ofO (keyD k)).bind fun k => .ok (.bl (n != (valD kds k).isSome))
  | _, _ => .bad
@[simp] theorem dinD_dic (n : Bool) (k : D) (kds : List (Key × D)) : dinD n k (.dic kds) = (ofO (keyD k)).bind fun k => .ok (.bl (n != (valD kds k).isSome)) := by cases k <;> rfl
@[simp] def eDIn (n : Bool) (fk fo : List D → R D) (e : List D) : R D := (fk e).bind fun k => (fo e).bind fun d => dinD n k d
theorem din_of {K : PySem.W.Frag} {mg : Str → Option Value} (sg : St) (H : Hp) (Q : VK) (h : vE K mg G W .im (eDIn false fa fo) sg H Q) : tDIn (vE K mg G W ma fa) (vE K mg G W mo fo) sg H Q := by
  refine seq2 (kk := fun k d => dinD false k d) h fun B0 H0 B e B2 H2 y x d1 d2 S S2 x2 r1 r2 k => ?_
  have s0 : Same H0 H2 := S2.ext.h
  have q1 := r1.all x2.s s0
  cases d2 with
  | dic kds =>
    rw [dinD_dic] at k
    cases ek : keyD d1 with
    | none => rw [ek] at k; exact k.elim
    | some kk =>
      rw [ek] at k
      obtain ⟨p, kvs, rfl, hp, hv⟩ := r2.dic_at x2.s s0
      refine ⟨p, valV kvs kk, rfl, .inl ⟨kvs, kk, hp, key_rep q1 ek, rfl⟩, ?_⟩
      have e : (valV kvs kk).isSome = (valD kds kk).isSome := by
        rcases hv kk with ⟨h1, h2⟩ | ⟨z, d, h1, h2, h3⟩ <;> rw [h1, h2] <;> rfl
      rw [e]
      have k : KE K mg W sg H0 B H Q .im (.ok (.bl (false != (valD kds kk).isSome))) := k
      rw [Bool.false_bne] at k
      exact k B2 H2 _ x2 (.bl _)
  | _ => cases d1 <;> exact k.elim
theorem dnin_of {K : PySem.W.Frag} {mg : Str → Option Value} (sg : St) (H : Hp) (Q : VK) (h : vE K mg G W .im (eDIn true fa fo) sg H Q) : tDNotIn (vE K mg G W ma fa) (vE K mg G W mo fo) sg H Q := by
  refine seq2 (kk := fun k d => dinD true k d) h fun B0 H0 B e B2 H2 y x d1 d2 S S2 x2 r1 r2 k => ?_
  have s0 : Same H0 H2 := S2.ext.h
  have q1 := r1.all x2.s s0
  cases d2 with
  | dic kds =>
    rw [dinD_dic] at k
    cases ek : keyD d1 with
    | none => rw [ek] at k; exact k.elim
    | some kk =>
      rw [ek] at k
      obtain ⟨p, kvs, rfl, hp, hv⟩ := r2.dic_at x2.s s0
      refine ⟨p, valV kvs kk, rfl, .inl ⟨kvs, kk, hp, key_rep q1 ek, rfl⟩, ?_⟩
      have e : (valV kvs kk).isSome = (valD kds kk).isSome := by
        rcases hv kk with ⟨h1, h2⟩ | ⟨z, d, h1, h2, h3⟩ <;> rw [h1, h2] <;> rfl
      rw [e]
      have k : KE K mg W sg H0 B H Q .im (.ok (.bl (true != (valD kds kk).isSome))) := k
      rw [Bool.true_bne] at k
      exact k B2 H2 _ x2 (.bl _)
  | _ => cases d1 <;> exact k.elim
theorem ve_din (hu : X.A.units + 1 < cLine) (ha : PE X a (vE X.K X.mg G W ma fa)) (ho : PE X o (vE X.K X.mg G W mo fo)) (hm : behindInMarks .In o = false := by first | exact nomark _ | rfl) : PE X (.Compare a [.In] [o] pos) (vE X.K X.mg G W .im (eDIn false fa fo)) := pe_weak (pe_cmp (pc_din hu ha ho) hm) din_of
theorem ve_dnin (hu : X.A.units + 1 < cLine) (ha : PE X a (vE X.K X.mg G W ma fa)) (ho : PE X o (vE X.K X.mg G W mo fo)) (hm : behindInMarks .NotIn o = false := by first | exact nomark _ | rfl) : PE X (.Compare a [.NotIn] [o] pos) (vE X.K X.mg G W .im (eDIn true fa fo)) := pe_weak (pe_cmp (pc_dnotin hu ha ho) hm) dnin_of
theorem vt_din (hu : X.A.units + 1 < cLine) (ha : PE X a (vE X.K X.mg G W ma fa)) (ho : PE X o (vE X.K X.mg G W mo fo)) (hm : behindInMarks .In o = false := by first | exact nomark _ | rfl) : PT X (.Compare a [.In] [o] pos) (vT X.K X.mg G W (tVal (eDIn false fa fo))) :=
  pt_weak (pt_cmp (pc_din hu ha ho) hm) fun sg H Q h => din_of sg H _ (tval_of sg H Q h)
theorem vt_dnin (hu : X.A.units + 1 < cLine) (ha : PE X a (vE X.K X.mg G W ma fa)) (ho : PE X o (vE X.K X.mg G W mo fo)) (hm : behindInMarks .NotIn o = false := by first | exact nomark _ | rfl) : PT X (.Compare a [.NotIn] [o] pos) (vT X.K X.mg G W (tVal (eDIn true fa fo))) :=
  pt_weak (pt_cmp (pc_dnotin hu ha ho) hm) fun sg H Q h => dnin_of sg H _ (tval_of sg H Q h)
end
/-! ### d[k] = v, d one's own -/
def ownDAt (i : Nat) (e : List D) : R (List (Key × D)) := (ofO e[i]?).bind fun d => match d with | .dic kds => .ok kds | _ => .bad
def putR (kds : List (Key × D)) (k : D) (d : D) : R (List (Key × D)) := if kds.length < sizeLine then (ofO (keyD k)).bind fun k => .ok (putD kds k d) else .bad
@[simp] def sDPutV (i : Nat) (fk fv : List D → R D) (e : List D) : R Fl := (ownDAt i e).bind fun kds => (fv e).bind fun d => (fk e).bind fun k => (putR kds k d).bind fun kds' => .ok (.nx (e.set i (.dic kds')))
section
variable {X : Cx} {G : List Md} {W : WX} {rm : Rm} {spos pos pn : Pos} {a b : Expr} {fk fv : List D → R D} {i : Nat} {x : Str} {mk : Tg}
theorem ownD_get {K : PySem.W.Frag} {mg : Str → Option Value} {G' : List Md} {B0 H0 B H : Hp} {sg : St} {e : List D} {Dn : Ends} {kk : List (Key × D) → R Fl} (S : Sta K G B0 H0 sg e B H) (hG : G[i]? = some .ow) (k : KS K mg G' W rm B0 H0 B Dn ((ownDAt i e).bind kk)) :
    ∃ p kvs kds, sg[i]? = some (some (.ref p)) ∧ e[i]? = some (.dic kds) ∧ H p = some (.dK kvs) ∧ RepKs false K B kvs kds ∧ KS K mg G' W rm B0 H0 B Dn (kk kds) := by
  obtain ⟨v, d, h1, h2, h3⟩ := S.sl.get hG
  obtain ⟨p, rfl, hp0, hpb, ho⟩ := h3.own
  unfold ownDAt at k
  rw [h2] at k
  cases d with
  | dic kds =>
    obtain ⟨kvs, hh, hr⟩ := ho
    exact ⟨p, kvs, kds, h1, h2, hh, hr, k⟩
  | _ => exact k.elim
theorem vs_dput (hu : X.A.units + 1 < cLine) (hv0 : PE X b (vE X.K X.mg G W .im fv)) (hk : PE X a (vE X.K X.mg G W mk fk)) (hG : G[i]? = some .ow := by rfl) (hN : X.N[i]? = some x := by rfl)
    (hv : Vis X.env.scope x := by first | exact Or.inl rfl | exact Or.inr (Or.inl rfl) | exact Or.inr (Or.inr rfl)) (hdb : (x == ("__debug__" : Str)) = false := by decide) (hcd : (x == ("__classdict__" : Str)) = false := by decide)
    (hs : swapsWith b (some (.Subscript (.Name x pn) a pos)) spos.line X.env = pure false := by rfl) :
    PS X (.Assign [.Subscript (.Name x pn) a pos] b spos) (vS X.K X.mg G G W rm (sDPutV i fk fv)) := by
  refine ps_weak (ps_dput hu (pe_var hN hv hdb hcd) hk hv0 hs) fun Dn sg H ⟨B0, H0, B, e, S, k⟩ => ?_
  obtain ⟨p, kvs, kds, h1, h2, h3, h4, k⟩ := ownD_get S hG k
  refine seq1 (P := KS X.K X.mg G W rm B0 H0 B Dn) S k (fun c k => ks_ex S k) (fun k => k) fun B1 H1 v d x1 S1 r1 k1 => ?_
  refine ⟨.ref p, h1, ?_⟩
  refine seq1 (P := KS X.K X.mg G W rm B0 H0 B Dn) S1 k1 (fun c k => ks_ex S1 (KS.later k x1.b)) (fun k => k) fun B2 H2 y dk x2 S2 r2 k2 => ?_
  have ry := r2.all x2.s S2.ext.h
  unfold putR at k2
  by_cases hz : kds.length < sizeLine
  · rw [if_pos hz] at k2
    cases ek : keyD dk with
    | none => rw [ek] at k2; exact k2.elim
    | some kk =>
      rw [ek] at k2
      refine ⟨p, _, rfl, .inl ⟨kvs, kk, (x1.h.trans x2.h) _ _ h3, key_rep ry ek, by rw [h4.length]; exact hz, rfl⟩, ?_⟩
      have hr : RepKs false X.K B2 (putK kvs kk v) (putD kds kk d) := (h4.mono (x1.b.trans x2.b)).put kk (Rep.mono x2.b r1)
      exact k2 sg B2 _ (S2.mut hG h1 (show Own X.K B2 (upd H2 p (.dK (putK kvs kk v))) p (.dic (putD kds kk d)) from ⟨_, upd_same, hr⟩)) (x1.b.trans x2.b)
  · rw [if_neg hz] at k2; exact k2.elim
end
end L2.VL
set_option Elab.async false
set_option linter.all false
set_option maxRecDepth 100000
set_option maxHeartbeats 4000000
namespace L2.VL
open PySem PySem.Spec PyProof.Rows
/-! ## dicts: natives -/
structure KeyOk {κ : Type} (ek : κ → D) (g : κ → Key) : Prop where
  key : ∀ k, keyD (ek k) = some (g k)
  inj : ∀ a b, g a = g b → a = b
theorem key_S : KeyOk D.str Sum.inr := ⟨fun _ => rfl, fun a b h => by cases h; rfl⟩
theorem key_I : KeyOk D.int Sum.inl := ⟨fun _ => rfl, fun a b h => by cases h; rfl⟩
abbrev eDI {α : Type} (f : α → D) (l : List (Int × α)) : D := .dic (l.map fun p => (.inl p.1, f p.2))
section
variable {κ α β : Type} [DecidableEq κ] {ek : κ → D} {g : κ → Key} {f : α → D}
theorem valD_map (Ko : KeyOk ek g) (k : κ) : ∀ l : List (κ × α), valD (l.map fun p => (g p.1, f p.2)) (g k) = (valD l k).map f
  | [] => rfl
  | (k', v) :: l => by
    have ih := valD_map Ko k l
    unfold valD at ih ⊢
    rw [List.map_cons]
    by_cases e : k' = k
    · subst e
      simp
    · have e2 : ¬ g k' = g k := fun z => e (Ko.inj _ _ z)
      rw [List.find?_cons_of_neg (by simpa using e2), List.find?_cons_of_neg (by simpa using e)]
      exact ih
theorem any_map (Ko : KeyOk ek g) (k : κ) (l : List (κ × α)) : ((l.map fun p => (g p.1, f p.2)).any fun kv => decide (kv.1 = g k)) = l.any fun kv => decide (kv.1 = k) := by
  rw [List.any_map]
  congr 1
  funext p
  show decide (g p.1 = g k) = decide (p.1 = k)
  rw [decide_eq_decide]
  exact ⟨Ko.inj _ _, fun z => by rw [z]⟩
theorem putD_map (Ko : KeyOk ek g) (k : κ) (v : α) (l : List (κ × α)) : putD (l.map fun p => (g p.1, f p.2)) (g k) (f v) = (putD l k v).map fun p => (g p.1, f p.2) := by
  unfold putD
  rw [any_map Ko]
  split
  · rw [List.map_map, List.map_map]
    refine List.map_congr_left fun p _ => ?_
    show (if g p.1 = g k then (g p.1, f v) else (g p.1, f p.2)) = (fun q : κ × α => (g q.1, f q.2)) (if p.1 = k then (p.1, v) else p)
    by_cases e : p.1 = k
    · rw [if_pos (by rw [e]), if_pos e]
    · rw [if_neg (fun z => e (Ko.inj _ _ z)), if_neg e]
  · rw [List.map_append]
    rfl
theorem dropD_map (Ko : KeyOk ek g) (k : κ) (l : List (κ × α)) : dropD (l.map fun p => (g p.1, f p.2)) (g k) = (dropD l k).map fun p => (g p.1, f p.2) := by
  unfold dropD
  rw [List.filter_map]
  congr 1
  refine List.filter_congr fun p _ => ?_
  show decide (g p.1 ≠ g k) = decide (p.1 ≠ k)
  rw [decide_eq_decide]
  exact ⟨fun h z => h (by rw [z]), fun h z => h (Ko.inj _ _ z)⟩
def dgetR (l : List (κ × α)) (k : κ) : R α := ofO (valD l k)
def putN (l : List (κ × α)) (k : κ) (v : α) : R (List (κ × α)) := if l.length < sizeLine then .ok (putD l k v) else .bad
variable {p : Pat} {fo fk fv : List D → R D}
theorem k_dget (Ko : KeyOk ek g) (l : List (κ × α)) (k : κ) : Ref (dgetD (.dic (l.map fun p => (g p.1, f p.2))) (ek k)) ((dgetR l k).map f) := by
  rw [dgetD_dic, Ko.key]
  refine .inr ?_
  show ofO (valD _ (g k)) = _
  rw [valD_map Ko, ofO_map]
  rfl
theorem se_dget (Ko : KeyOk ek g) {ro : R (List (κ × α))} {rk : R κ} (ho : SE p fo ro (fun l => .dic (l.map fun p => (g p.1, f p.2)))) (hk : SE p fk rk ek) : SE p (eDGet fo fk) (ro.bind fun l => rk.bind fun k => dgetR l k) f :=
  fun e he => (ho e he).bind fun l => (hk e he).bind fun k => k_dget Ko l k
theorem se_dgetP (Ko : KeyOk ek g) {l : List (κ × α)} {k : κ} (ho : SP p fo (.dic (l.map fun p => (g p.1, f p.2)))) (hk : SP p fk (ek k)) : SE p (eDGet fo fk) (dgetR l k) f := se_2p (k := fun d k => dgetD d k) (k_dget Ko l k) ho hk
theorem k_din (Ko : KeyOk ek g) (n : Bool) (l : List (κ × α)) (k : κ) : dinD n (ek k) (.dic (l.map fun p => (g p.1, f p.2))) = .ok (.bl (n != (valD l k).isSome)) := by
  rw [dinD_dic, Ko.key]
  show R.ok (D.bl (n != (valD _ (g k)).isSome)) = _
  rw [valD_map Ko, Option.isSome_map]
theorem sp_din (Ko : KeyOk ek g) {n : Bool} {l : List (κ × α)} {k : κ} (hk : SP p fk (ek k)) (ho : SP p fo (.dic (l.map fun p => (g p.1, f p.2)))) : SP p (eDIn n fk fo) (.bl (n != (valD l k).isSome)) := sp_2 (k := fun k d => dinD n k d) (k_din Ko n l k) hk ho
theorem se_din (Ko : KeyOk ek g) {n : Bool} {ro : R (List (κ × α))} {rk : R κ} (hk : SE p fk rk ek) (ho : SE p fo ro (fun l => .dic (l.map fun p => (g p.1, f p.2)))) : SE p (eDIn n fk fo) (rk.bind fun k => ro.bind fun l => R.ok (n != (valD l k).isSome)) D.bl :=
  fun e he => (hk e he).bind fun k => (ho e he).bind fun l => Ref.of (k_din Ko n l k)
theorem sn_dput (Ko : KeyOk ek g) {i : Nat} {l : List (κ × α)} {rv : R α} {rk : R κ} {P : List (κ × α) → Pat} (hg : p[i]? = some (some (.dic (l.map fun p => (g p.1, f p.2))))) (hv : SE p fv rv f) (hk : SE p fk rk ek) (hP : ∀ x, P x = p.set i (some (.dic (x.map fun p => (g p.1, f p.2)))) := by intro _; rfl) :
    SN p (sDPutV i fk fv) (rv.bind fun x => rk.bind fun k => putN l k x) P := fun e he => by
  have g1 := hv e he
  have g2 := hk e he
  have e1 : sDPutV i fk fv e = (fv e).bind fun d => (fk e).bind fun k => (putR (l.map fun p => (g p.1, f p.2)) k d).bind fun kds' => .ok (.nx (e.set i (.dic kds'))) := by
    show (ownDAt i e).bind _ = _
    unfold ownDAt
    rw [he.get hg]
    rfl
  rw [e1]
  cases rv with
  | bad => exact .inl rfl
  | ex c => exact .inr (.inl ⟨c, rfl, by rw [g1.ex]; rfl⟩)
  | ok x =>
    rw [g1.ok, R.bind_ok, R.bind_ok]
    cases rk with
    | bad => exact .inl rfl
    | ex c => exact .inr (.inl ⟨c, rfl, by rw [g2.ex]; rfl⟩)
    | ok k =>
      rw [g2.ok, R.bind_ok, R.bind_ok]
      unfold putR putN
      rw [List.length_map, Ko.key]
      by_cases hz : l.length < sizeLine
      · rw [if_pos hz, if_pos hz]
        refine .inr (.inr ⟨_, _, rfl, rfl, ?_⟩)
        rw [hP, putD_map Ko]
        exact he.set i
      · rw [if_neg hz, if_neg hz]; exact .inl rfl
end
end L2.VL
set_option Elab.async false
set_option linter.all false
set_option maxRecDepth 100000
set_option maxHeartbeats 4000000
namespace L2.VL
open PySem PySem.Spec PyProof.Rows
theorem FnOk.bad {P : Program} {w : World} {K : PySem.W.Frag} {mg : Str → Option Value} {base : Heap} {k : Nat} {f : Addr} {fd : FuncData} {ps : List Str} {ms : List Pm} {rm : Rm} :
    FnOk P w K mg base (L2.CX P w) k f fd ps (spF K mg ms rm fun _ => .bad) := by
  refine ⟨fun vs H Q E q => ?_, fun A outer s H args us vs Q E hr he hb hv q => ?_⟩
  · obtain ⟨_, _, _, _, h⟩ := q
    exact h.elim
  · obtain ⟨_, _, _, _, h⟩ := q
    exact h.elim
/-! ### isinstance of two kinds -/
def isi2D (T1 T2 : String) (d : D) : Option Bool := match kitB (tyD d) T1 with
  | some true => some true
  | some false => kitB (tyD d) T2
  | none => none
@[simp] def eIsi2 (T1 T2 : String) (f : List D → R D) (e : List D) : R D := (f e).bind fun d => ofO ((isi2D T1 T2 d).map .bl)
section
variable {X : Cx} {G : List Md} {W : WX} {p p1 p2 pt pos : Pos} {a : Expr} {f : List D → R D} {m : Tg} {T1 T2 : Str} {N1 N2 : String} {kt : Nat}
theorem ve_isi2 (hm : X.mg "isinstance" = none) (hm1 : X.mg T1 = none) (hm2 : X.mg T2 = none) (hT1 : bootBuiltins T1 = some (.type N1)) (hT2 : bootBuiltins T2 = some (.type N2)) (ha : PE X a (vE X.K X.mg G W m f)) (hg : Gl X "isinstance" := by rfl) (hg1 : Gl X T1 := by rfl) (hg2 : Gl X T2 := by rfl)
    (hn1 : T1 ≠ "__name__" := by decide) (hn2 : T2 ≠ "__name__" := by decide) (hd1 : (T1 == ("__debug__" : Str)) = false := by decide) (hd2 : (T2 == ("__debug__" : Str)) = false := by decide)
    (he : starEach (a :: [.Tuple [.Name T1 p1, .Name T2 p2] kt pt]) X.env = (false, eval a X.env) :: starEach [.Tuple [.Name T1 p1, .Name T2 p2] kt pt] X.env := by rfl)
    (he2 : starEach [.Tuple [.Name T1 p1, .Name T2 p2] kt pt] X.env = (false, eval (.Tuple [.Name T1 p1, .Name T2 p2] kt pt) X.env) :: starEach [] X.env := by rfl)
    (he3 : starEach [.Name T1 p1, .Name T2 p2] X.env = (false, eval (.Name T1 p1) X.env) :: starEach [.Name T2 p2] X.env := by rfl) (he4 : starEach [.Name T2 p2] X.env = (false, eval (.Name T2 p2) X.env) :: starEach [] X.env := by rfl)
    (hpl : (backTo pos (starEach [.Tuple [.Name T1 p1, .Name T2 p2] kt pt] X.env)).any (·.1) = false := by rfl) :
    PE X (.Call (.Name "isinstance" p) [a, .Tuple [.Name T1 p1, .Name T2 p2] kt pt] [] pos) (vE X.K X.mg G W .im (eIsi2 N1 N2 f)) := by
  refine pe_weak (pe_callB call_isiT hg hm (by decide +kernel) (pa_cons ha (pa_cons (pe_tup (pa_cons (pe_bltn (v := .ty N1) hg1 hm1 hT1 rfl hn1 hd1) (pa_cons (pe_bltn (v := .ty N2) hg2 hm2 hT2 rfl hn2 hd2) pa_nil he4) he3)) pa_nil he2) he) (by decide) (by decide) he hpl) fun sg H Q ⟨B0, H0, B, e, S, k⟩ => ?_
  refine seq1 (P := KE X.K X.mg W sg H0 B H Q .im) S k (fun c k => k) (fun k => k) fun B1 H1 x d x1 S1 r1 k1 => ?_
  have r := r1.all x1.s S1.ext.h
  refine ⟨by show 2 ≤ sizeLine; decide, fun q hq => ?_⟩
  have x2 : Ext B1 H1 B1 (upd H1 q (.tup [.ty N1, .ty N2])) := .newH x1.s hq
  have r2 := Rep.mono x2.h r
  cases ei : isi2D N1 N2 d with
  | none => rw [ei] at k1; exact k1.elim
  | some b =>
    rw [ei] at k1
    refine ⟨x, q, [.ty N1, .ty N2], _, [.type N1, .type N2], b, rfl, upd_same, .cons (.ty N1) (.cons (.ty N2) .nil), tyx_of r2, ?_, k1 B1 _ _ (x1.trans x2) (.bl b)⟩
    unfold isi2D at ei
    cases e1 : kitB (tyD d) N1 with
    | none => rw [e1] at ei; cases ei
    | some b1 =>
      rw [e1] at ei
      have h1 : PySem.W.kitOne X.K (.type (tyD d)) (.type N1) = some b1 := kit_ty e1
      cases b1 with
      | true =>
        cases ei
        exact kitAny_cons h1 (fun z => nomatch z) fun _ => rfl
      | false =>
        have h2 : PySem.W.kitOne X.K (.type (tyD d)) (.type N2) = some b := kit_ty ei
        exact kitAny_cons h1 (fun _ => kitAny_cons h2 (fun z => by rw [z]; rfl) fun z => z) (fun z => nomatch z)
end
def isi2R (T1 T2 : String) (d : D) : R Bool := ofO (isi2D T1 T2 d)
section
variable {p : Pat} {α : Type} {ea : α → D} {f g : List D → R D}
theorem se_isi2 {T1 T2 : String} {r : R α} (ha : SE p f r ea) : SE p (eIsi2 T1 T2 f) (r.bind fun x => isi2R T1 T2 (ea x)) D.bl := se_1 (k := fun d => ofO ((isi2D T1 T2 d).map .bl)) (fun x => .inr (by unfold isi2R; rw [ofO_map])) ha
end
/-! ### zip of two lists or of two tuples -/
@[simp] def iZipA (f g : List D → R D) (e : List D) : R (List (D × D)) := (f e).bind fun d => (g e).bind fun d' => match d, d' with
  | .lst ds, .lst es => .ok (ds.zip es)
  | .tup ds, .tup es => .ok (ds.zip es)
  | _, _ => .bad
section
variable {X : Cx} {G : List Md} {W : WX} {a b : Expr} {f g : List D → R D} {m1 m2 : Pm} {p pos tpos : Pos} {elts : List Expr} {kk : Nat}
theorem pi_or {tg e : Expr} {t t' : TI} (h : PI X tg e t) (h' : PI X tg e t') : PI X tg e (fun sg H R => t sg H R ∨ t' sg H R) := ⟨fun pins s sg H Q I q => q.elim (h.run pins s sg H Q I) (h'.run pins s sg H Q I)⟩
theorem vi_zipA (hm : X.mg "zip" = none) (ha : PE X a (vE X.K X.mg G W (pmT m1) f)) (hb : PE X b (vE X.K X.mg G W (pmT m2) g)) (hg : Gl X "zip" := by rfl)
    (hs : starEach [a, b] X.env = (false, eval a X.env) :: starEach [b] X.env := by rfl) (hs2 : starEach [b] X.env = [(false, eval b X.env)] := by rfl) :
    PI X (.Tuple elts kk tpos) (.Call (.Name "zip" p) [a, b] [] pos) (vI2 X.K X.mg G W m1 m2 (iZipA f g)) := by
  refine pi_weak (pi_or (vi_zipL hm ha hb hg hs hs2) (vi_zipT hm ha hb hg hs hs2)) fun sg H Rr ⟨B0, H0, B, e, S, k⟩ => ?_
  cases ef : f e with
  | bad => unfold iZipA at k; rw [ef] at k; exact k.elim
  | ex c => exact .inl ⟨B0, H0, B, e, S, by unfold iZipA at k; rw [ef] at k; unfold iZipL; rw [ef]; exact k⟩
  | ok d =>
    cases eg : g e with
    | bad => unfold iZipA at k; rw [ef, R.bind_ok, eg] at k; exact k.elim
    | ex c => exact .inl ⟨B0, H0, B, e, S, by unfold iZipA at k; rw [ef, R.bind_ok, eg] at k; unfold iZipL; rw [ef, R.bind_ok, eg]; exact k⟩
    | ok d' =>
      unfold iZipA at k
      rw [ef, R.bind_ok, eg, R.bind_ok] at k
      split at k
      · exact .inl ⟨B0, H0, B, e, S, by unfold iZipL; rw [ef, R.bind_ok, eg]; exact k⟩
      · exact .inr ⟨B0, H0, B, e, S, by unfold iZipT; rw [ef, R.bind_ok, eg]; exact k⟩
      · exact k.elim
end
def zipAR (d d' : D) : R (List (D × D)) := match d, d' with
  | .lst ds, .lst es => .ok (ds.zip es)
  | .tup ds, .tup es => .ok (ds.zip es)
  | _, _ => .bad
def lenA (d : D) : R Int := match gLen [d] with
  | some (.int i) => .ok i
  | _ => .bad
section
variable {p : Pat} {α : Type} {ea : α → D} {f g : List D → R D}
theorem si_zipA {r r' : R D} (h : SE p f r eA) (h' : SE p g r' eA) : SI2 p (iZipA f g) (r.bind fun l => r'.bind fun k => zipAR l k) eA eA := fun e he => by
  have g1 := h e he
  have g2 := h' e he
  show Ref ((f e).bind _) _
  cases r with
  | bad => exact .inl rfl
  | ex c => rw [g1.ex]; exact .inr rfl
  | ok l =>
    rw [g1.ok, R.bind_ok]
    cases r' with
    | bad => exact .inl rfl
    | ex c => rw [g2.ex]; exact .inr rfl
    | ok k =>
      rw [g2.ok]
      show Ref (match eA l, eA k with | .lst ds, .lst es => R.ok (ds.zip es) | .tup ds, .tup es => R.ok (ds.zip es) | _, _ => R.bad) ((zipAR l k).map _)
      have e1 : ∀ xs : List (D × D), xs.map (fun x => (eA x.1, eA x.2)) = xs := fun xs => by
        conv => rhs; rw [← List.map_id xs]
        rfl
      unfold zipAR
      refine .inr ?_
      show (match l, k with | .lst ds, .lst es => R.ok (ds.zip es) | .tup ds, .tup es => R.ok (ds.zip es) | _, _ => R.bad) = _
      split <;> simp [e1]
theorem k_lenA (d : D) : Ref (ofO (gLen [eA d])) ((lenA d).map D.int) := by
  show Ref (ofO (gLen [d])) _
  unfold lenA
  cases e : gLen [d] with
  | none => exact .inl rfl
  | some x =>
    cases x with
    | int i => exact .inr rfl
    | _ => exact .inl rfl
end
end L2.VL
set_option Elab.async false
set_option linter.all false
set_option maxRecDepth 100000
set_option maxHeartbeats 4000000
namespace OD
open PySem PySem.Spec PyProof.Rows L2 L2.VL
def G_divisor (n : Nat) : List D → R Fl := (sSeq (whileN (tVal (eOp gGt (eVar 1) (eC (.int 0)))) (sSeq (sAsg 2 (eIx (eCall gDivmod (aCons (eVar 0) (aCons (eVar 1) aNil))) (eC (.int 1)))) (sSeq (sAsg 0 (eVar 1)) (sAsg 1 (eVar 2)))) n) (sRet (eVar 0)))
def M_divisor (n : Nat) : List D → R D := runF 3 (G_divisor n)
def T_divisor_w1  (s1 : (Int × Int)) : R (Int × Int) := (((dmR s1.1 s1.2).bind fun x => R.ok x.2).bind fun (v_rest : Int) => ((R.ok s1.2).bind fun (v_one : Int) => ((R.ok v_rest).bind fun (v_other : Int) => R.ok (v_one, v_other))))
def T_divisor_c2  (s1 : (Int × Int)) : R Bool := (R.ok (decide ((0 : Int) < s1.2)))
def T_divisor (n : Nat) (v_one : Int) (v_other : Int) : R Int := ((whileR T_divisor_c2 T_divisor_w1 n (v_one, v_other)).bind fun (y2 : (Int × Int)) => (R.ok y2.1))
theorem sim_divisor (n : Nat) (v_one : Int) (v_other : Int) : Ref (M_divisor n [D.int v_one, D.int v_other]) ((T_divisor n v_one v_other).map D.int) := by
  unfold M_divisor
  exact run_x (n := 3) (p := [some (D.int v_one), some (D.int v_other), none]) (by unfold G_divisor T_divisor; exact (sx_seq (sn_while (P := fun (s1 : (Int × Int)) => [some (D.int s1.1), some (D.int s1.2), none]) (rc := T_divisor_c2) (st := T_divisor_w1) (v_one, v_other) (by exact And.intro rfl (And.intro rfl (trivial))) (fun s1 => by unfold T_divisor_c2; exact (SCp.sc (sc_val (sp_op (d := D.bl (decide ((0 : Int) < s1.2))) rfl (sp_var (i := 1)) sp_c)))) (fun s1 => by unfold T_divisor_w1; exact (sn_seq (sn_asg (i := 2) (ea := D.int) (P := fun (v_rest : Int) => [some (D.int s1.1), some (D.int s1.2), some (D.int v_rest)]) (se_ixC (ec := D.int) (h := fun x => R.ok x.2) (se_call (sa_cons (d := (D.int s1.1)) (sp_var (i := 0)) (sa_cons (d := (D.int s1.2)) (sp_var (i := 1)) sa_nil)) (k_divmod s1.1 s1.2)) sp_c (fun _ => .inr rfl))) (fun (v_rest : Int) => (sn_seq (sn_asg (i := 0) (ea := D.int) (P := fun (v_one : Int) => [some (D.int v_one), some (D.int s1.2), some (D.int v_rest)]) (SP.se (ea := D.int) (x := s1.2) (sp_var (i := 1)))) (fun (v_one : Int) => (sn_yield (P := fun (s1 : (Int × Int)) => [some (D.int s1.1), some (D.int s1.2), none]) (sn_asg (i := 1) (ea := D.int) (P := fun (v_other : Int) => [some (D.int v_one), some (D.int v_other), some (D.int v_rest)]) (SP.se (ea := D.int) (x := v_rest) (sp_var (i := 2)))) (fun (v_other : Int) => (v_one, v_other)) (fun (v_other : Int) => by exact And.intro rfl (And.intro rfl (trivial)))))))))) (fun (y2 : (Int × Int)) => (sx_ret (SP.se (ea := D.int) (x := y2.1) (sp_var (i := 0))))))) (And.intro rfl (And.intro rfl (trivial)))
def G_lowered (n : Nat) : List D → R Fl := (sSeq (sAsg 2 (eCall (M_divisor n) (aCons (eVar 0) (aCons (eVar 1) aNil)))) (sRet (eTup (aCons (eOp gFdiv (eVar 0) (eVar 2)) (aCons (eOp gFdiv (eVar 1) (eVar 2)) aNil)))))
def M_lowered (n : Nat) : List D → R D := runF 3 (G_lowered n)
def T_lowered (n : Nat) (v_top : Int) (v_bottom : Int) : R (Int × Int) := ((T_divisor n v_top v_bottom).bind fun (v_by : Int) => (((divR v_top v_by).bind fun x => ((divR v_bottom v_by).bind fun x => (R.ok ()).bind fun xs => R.ok (x, xs)).bind fun xs => R.ok (x, xs)).bind fun t => R.ok (t.1, t.2.1)))
theorem sim_lowered (n : Nat) (v_top : Int) (v_bottom : Int) : Ref (M_lowered n [D.int v_top, D.int v_bottom]) ((T_lowered n v_top v_bottom).map (e2 D.int D.int)) := by
  unfold M_lowered
  exact run_x (n := 3) (p := [some (D.int v_top), some (D.int v_bottom), none]) (by unfold G_lowered T_lowered; exact (sx_seq (sn_asg (i := 2) (ea := D.int) (P := fun (v_by : Int) => [some (D.int v_top), some (D.int v_bottom), some (D.int v_by)]) (se_call (sa_cons (d := (D.int v_top)) (sp_var (i := 0)) (sa_cons (d := (D.int v_bottom)) (sp_var (i := 1)) sa_nil)) (sim_divisor n v_top v_bottom))) (fun (v_by : Int) => (sx_ret (se_tup (ea := (e2 D.int D.int)) (T := fun t => (t.1, t.2.1)) (sa_consE (se_opP (ec := D.int) (k_fdiv v_top v_by) (sp_var (i := 0)) (sp_var (i := 2))) (sa_consE (se_opP (ec := D.int) (k_fdiv v_bottom v_by) (sp_var (i := 1)) (sp_var (i := 2))) sa_nilE)) (fun _ => rfl)))))) (And.intro rfl (And.intro rfl (trivial)))
def G_ratio (n : Nat) : List D → R Fl := (sSeq (sIf (tOrB (tVal (eOp gLt (eVar 0) (eC (.int 0)))) (tVal (eOp gLt (eVar 1) (eC (.int 1))))) (sRaise "NoRatio") sNil) (sRet (eCall (M_lowered n) (aCons (eVar 0) (aCons (eVar 1) aNil)))))
def M_ratio (n : Nat) : List D → R D := runF 2 (G_ratio n)
def T_ratio (n : Nat) (v_top : Int) (v_bottom : Int) : R (Int × Int) := (((R.ok ((decide (v_top < (0 : Int))) || (decide (v_bottom < (1 : Int))))).bind fun b => if b then (R.ex "NoRatio") else ((R.ok ()).bind fun (_ : Unit) => R.ok ())).bind fun _ => (T_lowered n v_top v_bottom))
theorem sim_ratio (n : Nat) (v_top : Int) (v_bottom : Int) : Ref (M_ratio n [D.int v_top, D.int v_bottom]) ((T_ratio n v_top v_bottom).map (e2 D.int D.int)) := by
  unfold M_ratio
  exact run_x (n := 2) (p := [some (D.int v_top), some (D.int v_bottom)]) (by unfold G_ratio T_ratio; exact (sx_seq (sn_if (SCp.sc (sc_or (sc_val (sp_op (d := D.bl (decide (v_top < (0 : Int)))) rfl (sp_var (i := 0)) sp_c)) (sc_val (sp_op (d := D.bl (decide (v_bottom < (1 : Int)))) rfl (sp_var (i := 1)) sp_c)))) (sn_raise (P := fun (_ : Unit) => [some (D.int v_top), some (D.int v_bottom)])) (sn_yield (P := fun (_ : Unit) => [some (D.int v_top), some (D.int v_bottom)]) sn_nil (fun (_ : Unit) => ()) (fun (_ : Unit) => by exact And.intro rfl (And.intro rfl (trivial))))) (fun _ => (sx_ret (se_call (sa_cons (d := (D.int v_top)) (sp_var (i := 0)) (sa_cons (d := (D.int v_bottom)) (sp_var (i := 1)) sa_nil)) (sim_lowered n v_top v_bottom)))))) (And.intro rfl (And.intro rfl (trivial)))
def G_plus (n : Nat) : List D → R Fl := (sSeq (sAsg 2 (eCall (M_divisor n) (aCons (eFlat (eIx (eVar 0) (eC (.int 1)))) (aCons (eFlat (eIx (eVar 1) (eC (.int 1)))) aNil)))) (sSeq (sAsg 3 (eOp gFdiv (eIx (eVar 1) (eC (.int 1))) (eVar 2))) (sSeq (sAsg 4 (eOp gAdd (eOp gMul (eIx (eVar 0) (eC (.int 0))) (eVar 3)) (eOp gMul (eIx (eVar 1) (eC (.int 0))) (eOp gFdiv (eIx (eVar 0) (eC (.int 1))) (eVar 2))))) (sRet (eCall (M_lowered n) (aCons (eVar 4) (aCons (eOp gMul (eIx (eVar 0) (eC (.int 1))) (eVar 3)) aNil)))))))
def M_plus (n : Nat) : List D → R D := runF 5 (G_plus n)
def T_plus (n : Nat) (v_one : (Int × Int)) (v_other : (Int × Int)) : R (Int × Int) := ((T_divisor n v_one.2 v_other.2).bind fun (v_shared : Int) => ((divR v_other.2 v_shared).bind fun (v_more : Int) => (((mulR v_one.1 v_more).bind fun x => ((R.ok v_other.1).bind fun x => (divR v_one.2 v_shared).bind fun y => mulR x y).bind fun y => R.ok (x + y)).bind fun (v_top : Int) => (((R.ok v_top).bind fun x => ((mulR v_one.2 v_more).bind fun x => (R.ok ()).bind fun xs => R.ok (x, xs)).bind fun xs => R.ok (x, xs)).bind fun t => T_lowered n t.1 t.2.1))))
theorem sim_plus (n : Nat) (v_one : (Int × Int)) (v_other : (Int × Int)) : Ref (M_plus n [(e2 D.int D.int) v_one, (e2 D.int D.int) v_other]) ((T_plus n v_one v_other).map (e2 D.int D.int)) := by
  unfold M_plus
  exact run_x (n := 5) (p := [some ((e2 D.int D.int) v_one), some ((e2 D.int D.int) v_other), none, none, none]) (by unfold G_plus T_plus; exact (sx_seq (sn_asg (i := 2) (ea := D.int) (P := fun (v_shared : Int) => [some ((e2 D.int D.int) v_one), some ((e2 D.int D.int) v_other), some (D.int v_shared), none, none]) (se_call (sa_cons (d := (D.int v_one.2)) (sp_flat (sp_ix (d := D.int v_one.2) rfl (sp_var (i := 0)) sp_c)) (sa_cons (d := (D.int v_other.2)) (sp_flat (sp_ix (d := D.int v_other.2) rfl (sp_var (i := 1)) sp_c)) sa_nil)) (sim_divisor n v_one.2 v_other.2))) (fun (v_shared : Int) => (sx_seq (sn_asg (i := 3) (ea := D.int) (P := fun (v_more : Int) => [some ((e2 D.int D.int) v_one), some ((e2 D.int D.int) v_other), some (D.int v_shared), some (D.int v_more), none]) (se_opP (ec := D.int) (k_fdiv v_other.2 v_shared) (sp_ix (d := D.int v_other.2) rfl (sp_var (i := 1)) sp_c) (sp_var (i := 2)))) (fun (v_more : Int) => (sx_seq (sn_asg (i := 4) (ea := D.int) (P := fun (v_top : Int) => [some ((e2 D.int D.int) v_one), some ((e2 D.int D.int) v_other), some (D.int v_shared), some (D.int v_more), some (D.int v_top)]) (se_op (ec := D.int) (h := fun (x : Int) (y : Int) => R.ok (x + y)) (fun x y => Ref.of (by first | rfl | (rw [rfl]; rfl))) (se_opP (ec := D.int) (k_mul v_one.1 v_more) (sp_ix (d := D.int v_one.1) rfl (sp_var (i := 0)) sp_c) (sp_var (i := 3))) (se_op (ec := D.int) (h := fun x y => mulR x y) (fun x y => k_mul x y) (SP.se (ea := D.int) (x := v_other.1) (sp_ix (d := D.int v_other.1) rfl (sp_var (i := 1)) sp_c)) (se_opP (ec := D.int) (k_fdiv v_one.2 v_shared) (sp_ix (d := D.int v_one.2) rfl (sp_var (i := 0)) sp_c) (sp_var (i := 2)))))) (fun (v_top : Int) => (sx_ret (se_callE (sa_consE (SP.se (ea := D.int) (x := v_top) (sp_var (i := 4))) (sa_consE (se_opP (ec := D.int) (k_mul v_one.2 v_more) (sp_ix (d := D.int v_one.2) rfl (sp_var (i := 0)) sp_c) (sp_var (i := 3))) sa_nilE)) (fun t => sim_lowered n t.1 t.2.1)))))))))) (And.intro rfl (And.intro rfl (trivial)))
def G_added (n : Nat) : List D → R Fl := (sSeq (sAsg 1 (eTup (aCons (eC (.int 0)) (aCons (eC (.int 1)) aNil)))) (sSeq (sFor (iLst (eVar 0)) (tgName 2) (sAsg 1 (eCall (M_plus n) (aCons (eVar 1) (aCons (eVar 2) aNil))))) (sRet (eVar 1))))
def M_added (n : Nat) : List D → R D := runF 3 (G_added n)
def T_added_b1 (n : Nat)  (s1 : (Int × Int)) (a2 : (Int × Int)) : R (Int × Int) := ((T_plus n s1 a2).bind fun (v_total : (Int × Int)) => R.ok v_total)
def T_added (n : Nat) (v_some : (List (Int × Int))) : R (Int × Int) := ((R.ok ((0 : Int), (1 : Int))).bind fun (v_total : (Int × Int)) => (((R.ok v_some).bind fun l => foldR (T_added_b1 n) l v_total).bind fun (v_total : (Int × Int)) => (R.ok v_total)))
theorem sim_added (n : Nat) (v_some : (List (Int × Int))) : Ref (M_added n [(eL (e2 D.int D.int)) v_some]) ((T_added n v_some).map (e2 D.int D.int)) := by
  unfold M_added
  exact run_x (n := 3) (p := [some ((eL (e2 D.int D.int)) v_some), none, none]) (by unfold G_added T_added; exact (sx_seq (sn_asg (i := 1) (ea := (e2 D.int D.int)) (P := fun (v_total : (Int × Int)) => [some ((eL (e2 D.int D.int)) v_some), some ((e2 D.int D.int) v_total), none]) (SP.se (ea := (e2 D.int D.int)) (x := ((0 : Int), (1 : Int))) (sp_tup (sa_cons (d := (D.int (0 : Int))) sp_c (sa_cons (d := (D.int (1 : Int))) sp_c sa_nil))))) (fun (v_total : (Int × Int)) => (sx_seq (sn_for (P := fun (s1 : (Int × Int)) => [some ((eL (e2 D.int D.int)) v_some), some ((e2 D.int D.int) s1), none]) (Pt := fun (s1 : (Int × Int)) (a2 : (Int × Int)) => [some ((eL (e2 D.int D.int)) v_some), some ((e2 D.int D.int) s1), some ((e2 D.int D.int) a2)]) (st := (T_added_b1 n)) v_total (si_lst (ea := (e2 D.int D.int)) (SP.se (ea := (eL (e2 D.int D.int))) (x := v_some) (sp_var (i := 0)))) (by exact And.intro rfl (And.intro rfl (trivial))) (fun _ => tg_name) (fun s1 a2 => by unfold T_added_b1; exact (sn_yield (P := fun (s1 : (Int × Int)) => [some ((eL (e2 D.int D.int)) v_some), some ((e2 D.int D.int) s1), none]) (sn_asg (i := 1) (ea := (e2 D.int D.int)) (P := fun (v_total : (Int × Int)) => [some ((eL (e2 D.int D.int)) v_some), some ((e2 D.int D.int) v_total), some ((e2 D.int D.int) a2)]) (se_call (sa_cons (d := ((e2 D.int D.int) s1)) (sp_var (i := 1)) (sa_cons (d := ((e2 D.int D.int) a2)) (sp_var (i := 2)) sa_nil)) (sim_plus n s1 a2))) (fun (v_total : (Int × Int)) => v_total) (fun (v_total : (Int × Int)) => by exact And.intro rfl (And.intro rfl (trivial)))))) (fun (v_total : (Int × Int)) => (sx_ret (SP.se (ea := (e2 D.int D.int)) (x := v_total) (sp_var (i := 1))))))))) (And.intro rfl (trivial))
def G_law_is_whole : List D → R Fl := (sRet (eAnd (eIsi "int" (eVar 0)) (eNot (eIsi "bool" (eVar 0)))))
def M_law_is_whole : List D → R D := runF 1 (G_law_is_whole)
def T_law_is_whole (v_found : Int) : R Bool := (R.ok (true && (!false)))
theorem sim_law_is_whole (v_found : Int) : Ref (M_law_is_whole [D.int v_found]) ((T_law_is_whole v_found).map D.bl) := by
  unfold M_law_is_whole
  exact run_x (n := 1) (p := [some (D.int v_found)]) (by unfold G_law_is_whole T_law_is_whole; exact (sx_ret (SP.se (ea := D.bl) (x := (true && (!false))) (sp_and (sp_isi (d := (D.int v_found)) (b := true) (show kitB "int" "int" = some true by decide +kernel) (sp_var (i := 0))) (sp_not (sp_isi (d := (D.int v_found)) (b := false) (show kitB "int" "bool" = some false by decide +kernel) (sp_var (i := 0)))))))) (And.intro rfl (trivial))
def G_law_draws : List D → R Fl := (sSeq (sAsg 1 (eSlL .ar (eVar 0) pNo (pAt (eC (.int 63))))) (sSeq (sAsg 2 (eOp gMod (eB gSum (aCons (eSlL .ar (eVar 0) pNo (pAt (eC (.int 1)))) aNil)) (eC (.int 2147483629)))) (sSeq (sAsg 3 (eLst aNil)) (sSeq (sFor (iRng rng1 (aCons (eC (.int 96)) aNil)) (tgName 4) (sSeq (sAsg 5 (eOp gMod (eVar 4) (eB gMax (aCons (eC (.int 1)) (aCons (eB gLen (aCons (eVar 1) aNil)) aNil))))) (sSeq (sAsg 6 (eOp gMod (eOp gMul (eOp gAdd (eOp gAdd (eVar 2) (eC (.int 40009))) (eOp gMul (eC (.int 7)) (eVar 4))) (eOp gAdd (eC (.int 48271)) (eOp gMul (eC (.int 2)) (eVar 4)))) (eC (.int 2147483629)))) (sSeq (sAsg 7 (eOp gMod (eOp gMul (eOp gAdd (eOp gFdiv (eVar 6) (eC (.int 16))) (eOp gMul (eC (.int 613)) (eVar 4))) (eOp gAdd (eC (.int 69621)) (eOp gMul (eC (.int 6)) (eVar 4)))) (eC (.int 2147483587)))) (sSeq (sIf (tAndB (tVal (eOp gLt (eVar 5) (eB gLen (aCons (eVar 1) aNil)))) (tVal (eOp gNe (eIx (eVar 1) (eVar 5)) (eC (.int 0))))) (sSeq (sUnp (tgTup [8, 7]) (eCall gDivmod (aCons (eIx (eVar 1) (eVar 5)) (aCons (eOp gPow (eC (.int 10)) (eC (.int 18))) aNil)))) (sStore 1 (eVar 5) (eB gMax (aCons (eC (.int 0)) (aCons (eVar 8) aNil))))) sNil) (sOwn 3 gApp (aCons (eVar 7) aNil))))))) (sRet (eVar 3))))))
def M_law_draws : List D → R D := runFr 9 (G_law_draws)
def T_law_draws_b1 (v_first : Int) (s1 : ((List Int) × (List Int))) (a2 : Int) : R ((List Int) × (List Int)) := ((modR a2 (if (s1.1.length : Int) > (1 : Int) then (s1.1.length : Int) else (1 : Int))).bind fun (v_at : Int) => (((mulR ((v_first + (40009 : Int)) + ((7 : Int) * a2)) ((48271 : Int) + ((2 : Int) * a2))).bind fun x => R.ok (x % (2147483629 : Int))).bind fun (v_mixed : Int) => (((mulR ((v_mixed / (16 : Int)) + ((613 : Int) * a2)) ((69621 : Int) + ((6 : Int) * a2))).bind fun x => R.ok (x % (2147483587 : Int))).bind fun (v_draw : Int) => ((((R.ok (decide (v_at < (s1.1.length : Int)))).bind fun a => if a then ((atR s1.1 v_at).bind fun x => (R.ok (0 : Int)).bind fun y => R.ok (!decide (x = y))) else R.ok false).bind fun b => if b then ((((atR s1.1 v_at).bind fun x => ((R.ok (1000000000000000000 : Int)).bind fun x => (R.ok ()).bind fun xs => R.ok (x, xs)).bind fun xs => R.ok (x, xs)).bind fun t => dmR t.1 t.2.1).bind fun (y3 : (Int × Int)) => (((R.ok (if y3.1 > (0 : Int) then y3.1 else (0 : Int))).bind fun x => (R.ok v_at).bind fun k => setR s1.1 k x).bind fun (v_cells : (List Int)) => R.ok (v_cells, y3.2))) else ((R.ok ()).bind fun (_ : Unit) => R.ok (s1.1, v_draw))).bind fun (y3 : ((List Int) × Int)) => ((appR s1.2 y3.2).bind fun (v_draws_here : (List Int)) => R.ok (y3.1, v_draws_here))))))
def T_law_draws (v_script : (List Int)) : R (List Int) := ((R.ok (cutL v_script none (some (63 : Int)))).bind fun (v_cells : (List Int)) => ((R.ok ((List.sum (cutL v_script none (some (1 : Int)))) % (2147483629 : Int))).bind fun (v_first : Int) => ((R.ok ([] : (List Int))).bind fun (v_draws_here : (List Int)) => ((((R.ok (96 : Int)).bind rngR1).bind fun l => foldR (T_law_draws_b1 v_first) l (v_cells, v_draws_here)).bind fun (y4 : ((List Int) × (List Int))) => (R.ok y4.2)))))
theorem sim_law_draws (v_script : (List Int)) : Ref (M_law_draws [(eL D.int) v_script]) ((T_law_draws v_script).map (eL D.int)) := by
  unfold M_law_draws
  exact run_xr (n := 9) (p := [some ((eL D.int) v_script), none, none, none, none, none, none, none, none]) (by unfold G_law_draws T_law_draws; exact (sx_seq (sn_asg (i := 1) (ea := (eL D.int)) (P := fun (v_cells : (List Int)) => [some ((eL D.int) v_script), some ((eL D.int) v_cells), none, none, none, none, none, none, none]) (SP.se (ea := (eL D.int)) (x := (cutL v_script none (some (63 : Int)))) (sp_slL (l := v_script) (sp_var (i := 0)) sop_no (sop_at sp_c) (cn_flt flt_int .ar _)))) (fun (v_cells : (List Int)) => (sx_seq (sn_asg (i := 2) (ea := D.int) (P := fun (v_first : Int) => [some ((eL D.int) v_script), some ((eL D.int) v_cells), some (D.int v_first), none, none, none, none, none, none]) (SP.se (ea := D.int) (x := ((List.sum (cutL v_script none (some (1 : Int)))) % (2147483629 : Int))) (sp_op (d := .int ((List.sum (cutL v_script none (some (1 : Int)))) % (2147483629 : Int))) (g_modC (List.sum (cutL v_script none (some (1 : Int)))) 2147483629) (sp_b (d := D.int (List.sum (cutL v_script none (some (1 : Int))))) (sa_cons (d := ((eL D.int) (cutL v_script none (some (1 : Int))))) (sp_slL (l := v_script) (sp_var (i := 0)) sop_no (sop_at sp_c) (cn_flt flt_int .ar _)) sa_nil) (g_sumL _)) sp_c))) (fun (v_first : Int) => (sx_seq (sn_asg (i := 3) (ea := (eL D.int)) (P := fun (v_draws_here : (List Int)) => [some ((eL D.int) v_script), some ((eL D.int) v_cells), some (D.int v_first), some ((eL D.int) v_draws_here), none, none, none, none, none]) (SP.se (ea := (eL D.int)) (x := ([] : (List Int))) (sp_lst sa_nil))) (fun (v_draws_here : (List Int)) => (sx_seq (sn_for (P := fun (s1 : ((List Int) × (List Int))) => [some ((eL D.int) v_script), some ((eL D.int) s1.1), some (D.int v_first), some ((eL D.int) s1.2), none, none, none, none, none]) (Pt := fun (s1 : ((List Int) × (List Int))) (a2 : Int) => [some ((eL D.int) v_script), some ((eL D.int) s1.1), some (D.int v_first), some ((eL D.int) s1.2), some (D.int a2), none, none, none, none]) (st := (T_law_draws_b1 v_first)) (v_cells, v_draws_here) (si_rng1 (fs := aNil) (SP.se (ea := D.int) (x := (96 : Int)) sp_c)) (by exact And.intro rfl (And.intro rfl (And.intro rfl (And.intro rfl (trivial))))) (fun _ => tg_name) (fun s1 a2 => by unfold T_law_draws_b1; exact (sn_seq (sn_asg (i := 5) (ea := D.int) (P := fun (v_at : Int) => [some ((eL D.int) v_script), some ((eL D.int) s1.1), some (D.int v_first), some ((eL D.int) s1.2), some (D.int a2), some (D.int v_at), none, none, none]) (se_opP (ec := D.int) (k_mod a2 (if (s1.1.length : Int) > (1 : Int) then (s1.1.length : Int) else (1 : Int))) (sp_var (i := 4)) (sp_b (d := D.int (if (s1.1.length : Int) > (1 : Int) then (s1.1.length : Int) else (1 : Int))) (sa_cons (d := (D.int (1 : Int))) sp_c (sa_cons (d := (D.int (s1.1.length : Int))) (sp_b (d := D.int (s1.1.length : Int)) (sa_cons (d := ((eL D.int) s1.1)) (sp_var (i := 1)) sa_nil) (g_lenL _)) sa_nil)) rfl))) (fun (v_at : Int) => (sn_seq (sn_asg (i := 6) (ea := D.int) (P := fun (v_mixed : Int) => [some ((eL D.int) v_script), some ((eL D.int) s1.1), some (D.int v_first), some ((eL D.int) s1.2), some (D.int a2), some (D.int v_at), some (D.int v_mixed), none, none]) (se_opC (ec := D.int) (h := fun x => R.ok (x % (2147483629 : Int))) (se_opP (ec := D.int) (k_mul ((v_first + (40009 : Int)) + ((7 : Int) * a2)) ((48271 : Int) + ((2 : Int) * a2))) (sp_op (d := D.int ((v_first + (40009 : Int)) + ((7 : Int) * a2))) rfl (sp_op (d := D.int (v_first + (40009 : Int))) rfl (sp_var (i := 2)) sp_c) (sp_op (d := .int ((7 : Int) * a2)) (g_mulL 7 a2) sp_c (sp_var (i := 4)))) (sp_op (d := D.int ((48271 : Int) + ((2 : Int) * a2))) rfl sp_c (sp_op (d := .int ((2 : Int) * a2)) (g_mulL 2 a2) sp_c (sp_var (i := 4))))) sp_c (fun x => Ref.of (by rw [g_modC x 2147483629]; rfl)))) (fun (v_mixed : Int) => (sn_seq (sn_asg (i := 7) (ea := D.int) (P := fun (v_draw : Int) => [some ((eL D.int) v_script), some ((eL D.int) s1.1), some (D.int v_first), some ((eL D.int) s1.2), some (D.int a2), some (D.int v_at), some (D.int v_mixed), some (D.int v_draw), none]) (se_opC (ec := D.int) (h := fun x => R.ok (x % (2147483587 : Int))) (se_opP (ec := D.int) (k_mul ((v_mixed / (16 : Int)) + ((613 : Int) * a2)) ((69621 : Int) + ((6 : Int) * a2))) (sp_op (d := D.int ((v_mixed / (16 : Int)) + ((613 : Int) * a2))) rfl (sp_op (d := .int (v_mixed / (16 : Int))) (g_divC v_mixed 16) (sp_var (i := 6)) sp_c) (sp_op (d := .int ((613 : Int) * a2)) (g_mulL 613 a2) sp_c (sp_var (i := 4)))) (sp_op (d := D.int ((69621 : Int) + ((6 : Int) * a2))) rfl sp_c (sp_op (d := .int ((6 : Int) * a2)) (g_mulL 6 a2) sp_c (sp_var (i := 4))))) sp_c (fun x => Ref.of (by rw [g_modC x 2147483587]; rfl)))) (fun (v_draw : Int) => (sn_seq (sn_if (sc_andE (SCp.sc (sc_val (sp_op (d := D.bl (decide (v_at < (s1.1.length : Int)))) rfl (sp_var (i := 5)) (sp_b (d := D.int (s1.1.length : Int)) (sa_cons (d := ((eL D.int) s1.1)) (sp_var (i := 1)) sa_nil) (g_lenL _))))) (sc_valE (se_op (ec := D.bl) (h := fun (x : Int) (y : Int) => R.ok (!decide (x = y))) (fun x y => Ref.of (by first | rfl | (rw [rfl]; rfl))) (se_ixP (ec := D.int) (k_atL s1.1 v_at) (sp_var (i := 1)) (sp_var (i := 5))) (SP.se (ea := D.int) (x := (0 : Int)) sp_c)))) (sn_seq (sn_unp (P := fun (y3 : (Int × Int)) => [some ((eL D.int) v_script), some ((eL D.int) s1.1), some (D.int v_first), some ((eL D.int) s1.2), some (D.int a2), some (D.int v_at), some (D.int v_mixed), some (D.int y3.2), some (D.int y3.1)]) (se_callE (sa_consE (se_ixP (ec := D.int) (k_atL s1.1 v_at) (sp_var (i := 1)) (sp_var (i := 5))) (sa_consE (SP.se (ea := D.int) (x := (1000000000000000000 : Int)) (sp_op (d := .int 1000000000000000000) (g_powC 10 18 1000000000000000000) sp_c sp_c)) sa_nilE)) (fun t => k_divmod t.1 t.2.1)) (fun _ _ he => ⟨_, rfl, ((he.set 8).set 7)⟩)) (fun (y3 : (Int × Int)) => (sn_yield (P := fun (y3 : ((List Int) × Int)) => [some ((eL D.int) v_script), some ((eL D.int) y3.1), some (D.int v_first), some ((eL D.int) s1.2), some (D.int a2), some (D.int v_at), some (D.int v_mixed), some (D.int y3.2), none]) (sn_store (i := 1) (l := s1.1) (ea := D.int) (P := fun (v_cells : (List Int)) => [some ((eL D.int) v_script), some ((eL D.int) v_cells), some (D.int v_first), some ((eL D.int) s1.2), some (D.int a2), some (D.int v_at), some (D.int v_mixed), some (D.int y3.2), some (D.int y3.1)]) rfl (SP.se (ea := D.int) (x := (if y3.1 > (0 : Int) then y3.1 else (0 : Int))) (sp_b (d := D.int (if y3.1 > (0 : Int) then y3.1 else (0 : Int))) (sa_cons (d := (D.int (0 : Int))) sp_c (sa_cons (d := (D.int y3.1)) (sp_var (i := 8)) sa_nil)) rfl)) (SP.se (ea := D.int) (x := v_at) (sp_var (i := 5)))) (fun (v_cells : (List Int)) => (v_cells, y3.2)) (fun (v_cells : (List Int)) => by exact And.intro rfl (And.intro rfl (And.intro rfl (And.intro rfl (And.intro rfl (And.intro rfl (And.intro rfl (And.intro rfl (trivial)))))))))))) (sn_yield (P := fun (y3 : ((List Int) × Int)) => [some ((eL D.int) v_script), some ((eL D.int) y3.1), some (D.int v_first), some ((eL D.int) s1.2), some (D.int a2), some (D.int v_at), some (D.int v_mixed), some (D.int y3.2), none]) sn_nil (fun (_ : Unit) => (s1.1, v_draw)) (fun (_ : Unit) => by exact And.intro rfl (And.intro rfl (And.intro rfl (And.intro rfl (And.intro rfl (And.intro rfl (And.intro rfl (And.intro rfl (trivial))))))))))) (fun (y3 : ((List Int) × Int)) => (sn_yield (P := fun (s1 : ((List Int) × (List Int))) => [some ((eL D.int) v_script), some ((eL D.int) s1.1), some (D.int v_first), some ((eL D.int) s1.2), none, none, none, none, none]) (sn_appP (i := 3) (l := s1.2) (x := y3.2) (ea := D.int) (P := fun (v_draws_here : (List Int)) => [some ((eL D.int) v_script), some ((eL D.int) y3.1), some (D.int v_first), some ((eL D.int) v_draws_here), some (D.int a2), some (D.int v_at), some (D.int v_mixed), some (D.int y3.2), none]) rfl (sp_var (i := 7))) (fun (v_draws_here : (List Int)) => (y3.1, v_draws_here)) (fun (v_draws_here : (List Int)) => by exact And.intro rfl (And.intro rfl (And.intro rfl (And.intro rfl (trivial)))))))))))))))) (fun (y4 : ((List Int) × (List Int))) => (sx_ret (SP.se (ea := (eL D.int)) (x := y4.2) (sp_var (i := 3))))))))))))) (And.intro rfl (trivial))
def G_law_divisor (n : Nat) : List D → R Fl := (sSeq (whileN (tVal (eOp gGt (eVar 1) (eC (.int 0)))) (sPar 0 1 (aCons (eVar 1) (aCons (eOp gMod (eVar 0) (eVar 1)) aNil))) n) (sRet (eVar 0)))
def M_law_divisor (n : Nat) : List D → R D := runF 2 (G_law_divisor n)
def T_law_divisor_w1  (s1 : (Int × Int)) : R (Int × Int) := (((R.ok s1.2).bind fun x => (modR s1.1 s1.2).bind fun y => R.ok (x, y)).bind fun (y2 : (Int × Int)) => R.ok (y2.1, y2.2))
def T_law_divisor_c2  (s1 : (Int × Int)) : R Bool := (R.ok (decide ((0 : Int) < s1.2)))
def T_law_divisor (n : Nat) (v_one : Int) (v_other : Int) : R Int := ((whileR T_law_divisor_c2 T_law_divisor_w1 n (v_one, v_other)).bind fun (y3 : (Int × Int)) => (R.ok y3.1))
theorem sim_law_divisor (n : Nat) (v_one : Int) (v_other : Int) : Ref (M_law_divisor n [D.int v_one, D.int v_other]) ((T_law_divisor n v_one v_other).map D.int) := by
  unfold M_law_divisor
  exact run_x (n := 2) (p := [some (D.int v_one), some (D.int v_other)]) (by unfold G_law_divisor T_law_divisor; exact (sx_seq (sn_while (P := fun (s1 : (Int × Int)) => [some (D.int s1.1), some (D.int s1.2)]) (rc := T_law_divisor_c2) (st := T_law_divisor_w1) (v_one, v_other) (by exact And.intro rfl (And.intro rfl (trivial))) (fun s1 => by unfold T_law_divisor_c2; exact (SCp.sc (sc_val (sp_op (d := D.bl (decide ((0 : Int) < s1.2))) rfl (sp_var (i := 1)) sp_c)))) (fun s1 => by unfold T_law_divisor_w1; exact (sn_yield (P := fun (s1 : (Int × Int)) => [some (D.int s1.1), some (D.int s1.2)]) (sn_par (i := 0) (j := 1) (P := fun (y2 : (Int × Int)) => [some (D.int y2.1), some (D.int y2.2)]) (SP.se (ea := D.int) (x := s1.2) (sp_var (i := 1))) (se_opP (ec := D.int) (k_mod s1.1 s1.2) (sp_var (i := 0)) (sp_var (i := 1)))) (fun (y2 : (Int × Int)) => (y2.1, y2.2)) (fun (y2 : (Int × Int)) => by exact And.intro rfl (And.intro rfl (trivial)))))) (fun (y3 : (Int × Int)) => (sx_ret (SP.se (ea := D.int) (x := y3.1) (sp_var (i := 0))))))) (And.intro rfl (And.intro rfl (trivial)))
def G_law_fraction (n : Nat) : List D → R Fl := (sSeq (sIf (tOrB (tNotB (tVal (eIsi "tuple" (eVar 0)))) (tVal (eOp gNe (eB gLen (aCons (eVar 0) aNil)) (eC (.int 2))))) (sRet (eC (.bl false))) sNil) (sSeq (sIf (tOrB (tNotB (tVal (eCall M_law_is_whole (aCons (eIx (eVar 0) (eC (.int 0))) aNil)))) (tNotB (tVal (eCall M_law_is_whole (aCons (eIx (eVar 0) (eC (.int 1))) aNil))))) (sRet (eC (.bl false))) sNil) (sSeq (sIf (tOrB (tVal (eOp gLt (eIx (eVar 0) (eC (.int 0))) (eC (.int 0)))) (tOrB (tVal (eOp gLt (eIx (eVar 0) (eC (.int 1))) (eC (.int 1)))) (tVal (eOp gNe (eOp gMul (eIx (eVar 0) (eC (.int 0))) (eVar 2)) (eOp gMul (eVar 1) (eIx (eVar 0) (eC (.int 1)))))))) (sRet (eC (.bl false))) sNil) (sRet (eOp gEq (eCall (M_law_divisor n) (aCons (eIx (eVar 0) (eC (.int 0))) (aCons (eIx (eVar 0) (eC (.int 1))) aNil))) (eC (.int 1)))))))
def M_law_fraction (n : Nat) : List D → R D := runF 3 (G_law_fraction n)
def T_law_fraction (n : Nat) (v_found : (Int × Int)) (v_top : Int) (v_bottom : Int) : R Bool := ((R.ok ((!true) || (!decide ((2 : Int) = (2 : Int))))).bind fun b => if b then (R.ok false) else ((R.ok ()).bind fun (_ : Unit) => R.ok ()).bind fun _ => ((((T_law_is_whole v_found.1).bind fun b => R.ok (!b)).bind fun a => if a then R.ok true else ((T_law_is_whole v_found.2).bind fun b => R.ok (!b))).bind fun b => if b then (R.ok false) else ((R.ok ()).bind fun (_ : Unit) => R.ok ()).bind fun _ => (((R.ok (decide (v_found.1 < (0 : Int)))).bind fun a => if a then R.ok true else ((R.ok (decide (v_found.2 < (1 : Int)))).bind fun a => if a then R.ok true else ((mulR v_found.1 v_bottom).bind fun x => (mulR v_top v_found.2).bind fun y => R.ok (!decide (x = y))))).bind fun b => if b then (R.ok false) else ((R.ok ()).bind fun (_ : Unit) => R.ok ()).bind fun _ => ((T_law_divisor n v_found.1 v_found.2).bind fun x => (R.ok (1 : Int)).bind fun y => R.ok (decide (x = y))))))
theorem sim_law_fraction (n : Nat) (v_found : (Int × Int)) (v_top : Int) (v_bottom : Int) : Ref (M_law_fraction n [(e2 D.int D.int) v_found, D.int v_top, D.int v_bottom]) ((T_law_fraction n v_found v_top v_bottom).map D.bl) := by
  unfold M_law_fraction
  exact run_x (n := 3) (p := [some ((e2 D.int D.int) v_found), some (D.int v_top), some (D.int v_bottom)]) (by unfold G_law_fraction T_law_fraction; exact (sx_ifT (SCp.sc (sc_or (sc_not (sc_val (sp_isi (d := ((e2 D.int D.int) v_found)) (b := true) (show kitB "tuple" "tuple" = some true by decide +kernel) (sp_var (i := 0))))) (sc_val (sp_op (d := D.bl (!decide ((2 : Int) = (2 : Int)))) rfl (sp_b (d := D.int (2 : Int)) (sa_cons (d := ((e2 D.int D.int) v_found)) (sp_var (i := 0)) sa_nil) rfl) sp_c)))) (sx_ret (SP.se (ea := D.bl) (x := false) sp_c)) (sn_yield (P := fun (_ : Unit) => [some ((e2 D.int D.int) v_found), some (D.int v_top), some (D.int v_bottom)]) sn_nil (fun (_ : Unit) => ()) (fun (_ : Unit) => by exact And.intro rfl (And.intro rfl (And.intro rfl (trivial))))) (fun _ => (sx_ifT (sc_orE (sc_notE (sc_valE (se_call (sa_cons (d := (D.int v_found.1)) (sp_ix (d := D.int v_found.1) rfl (sp_var (i := 0)) sp_c) sa_nil) (sim_law_is_whole v_found.1)))) (sc_notE (sc_valE (se_call (sa_cons (d := (D.int v_found.2)) (sp_ix (d := D.int v_found.2) rfl (sp_var (i := 0)) sp_c) sa_nil) (sim_law_is_whole v_found.2))))) (sx_ret (SP.se (ea := D.bl) (x := false) sp_c)) (sn_yield (P := fun (_ : Unit) => [some ((e2 D.int D.int) v_found), some (D.int v_top), some (D.int v_bottom)]) sn_nil (fun (_ : Unit) => ()) (fun (_ : Unit) => by exact And.intro rfl (And.intro rfl (And.intro rfl (trivial))))) (fun _ => (sx_ifT (sc_orE (SCp.sc (sc_val (sp_op (d := D.bl (decide (v_found.1 < (0 : Int)))) rfl (sp_ix (d := D.int v_found.1) rfl (sp_var (i := 0)) sp_c) sp_c))) (sc_orE (SCp.sc (sc_val (sp_op (d := D.bl (decide (v_found.2 < (1 : Int)))) rfl (sp_ix (d := D.int v_found.2) rfl (sp_var (i := 0)) sp_c) sp_c))) (sc_valE (se_op (ec := D.bl) (h := fun (x : Int) (y : Int) => R.ok (!decide (x = y))) (fun x y => Ref.of (by first | rfl | (rw [rfl]; rfl))) (se_opP (ec := D.int) (k_mul v_found.1 v_bottom) (sp_ix (d := D.int v_found.1) rfl (sp_var (i := 0)) sp_c) (sp_var (i := 2))) (se_opP (ec := D.int) (k_mul v_top v_found.2) (sp_var (i := 1)) (sp_ix (d := D.int v_found.2) rfl (sp_var (i := 0)) sp_c)))))) (sx_ret (SP.se (ea := D.bl) (x := false) sp_c)) (sn_yield (P := fun (_ : Unit) => [some ((e2 D.int D.int) v_found), some (D.int v_top), some (D.int v_bottom)]) sn_nil (fun (_ : Unit) => ()) (fun (_ : Unit) => by exact And.intro rfl (And.intro rfl (And.intro rfl (trivial))))) (fun _ => (sx_ret (se_op (ec := D.bl) (h := fun (x : Int) (y : Int) => R.ok (decide (x = y))) (fun x y => Ref.of (by first | rfl | (rw [rfl]; rfl))) (se_call (sa_cons (d := (D.int v_found.1)) (sp_ix (d := D.int v_found.1) rfl (sp_var (i := 0)) sp_c) (sa_cons (d := (D.int v_found.2)) (sp_ix (d := D.int v_found.2) rfl (sp_var (i := 0)) sp_c) sa_nil)) (sim_law_divisor n v_found.1 v_found.2)) (SP.se (ea := D.int) (x := (1 : Int)) sp_c)))))))))) (And.intro rfl (And.intro rfl (And.intro rfl (trivial))))
def G_times (n : Nat) : List D → R Fl := (sSeq (sAsg 2 (eCall (M_lowered n) (aCons (eFlat (eIx (eVar 0) (eC (.int 0)))) (aCons (eFlat (eIx (eVar 1) (eC (.int 1)))) aNil)))) (sSeq (sAsg 3 (eCall (M_lowered n) (aCons (eFlat (eIx (eVar 1) (eC (.int 0)))) (aCons (eFlat (eIx (eVar 0) (eC (.int 1)))) aNil)))) (sRet (eTup (aCons (eOp gMul (eIx (eVar 2) (eC (.int 0))) (eIx (eVar 3) (eC (.int 0)))) (aCons (eOp gMul (eIx (eVar 2) (eC (.int 1))) (eIx (eVar 3) (eC (.int 1)))) aNil))))))
def M_times (n : Nat) : List D → R D := runF 4 (G_times n)
def T_times (n : Nat) (v_one : (Int × Int)) (v_other : (Int × Int)) : R (Int × Int) := ((T_lowered n v_one.1 v_other.2).bind fun (v_here : (Int × Int)) => ((T_lowered n v_other.1 v_one.2).bind fun (v_there : (Int × Int)) => (((mulR v_here.1 v_there.1).bind fun x => ((mulR v_here.2 v_there.2).bind fun x => (R.ok ()).bind fun xs => R.ok (x, xs)).bind fun xs => R.ok (x, xs)).bind fun t => R.ok (t.1, t.2.1))))
theorem sim_times (n : Nat) (v_one : (Int × Int)) (v_other : (Int × Int)) : Ref (M_times n [(e2 D.int D.int) v_one, (e2 D.int D.int) v_other]) ((T_times n v_one v_other).map (e2 D.int D.int)) := by
  unfold M_times
  exact run_x (n := 4) (p := [some ((e2 D.int D.int) v_one), some ((e2 D.int D.int) v_other), none, none]) (by unfold G_times T_times; exact (sx_seq (sn_asg (i := 2) (ea := (e2 D.int D.int)) (P := fun (v_here : (Int × Int)) => [some ((e2 D.int D.int) v_one), some ((e2 D.int D.int) v_other), some ((e2 D.int D.int) v_here), none]) (se_call (sa_cons (d := (D.int v_one.1)) (sp_flat (sp_ix (d := D.int v_one.1) rfl (sp_var (i := 0)) sp_c)) (sa_cons (d := (D.int v_other.2)) (sp_flat (sp_ix (d := D.int v_other.2) rfl (sp_var (i := 1)) sp_c)) sa_nil)) (sim_lowered n v_one.1 v_other.2))) (fun (v_here : (Int × Int)) => (sx_seq (sn_asg (i := 3) (ea := (e2 D.int D.int)) (P := fun (v_there : (Int × Int)) => [some ((e2 D.int D.int) v_one), some ((e2 D.int D.int) v_other), some ((e2 D.int D.int) v_here), some ((e2 D.int D.int) v_there)]) (se_call (sa_cons (d := (D.int v_other.1)) (sp_flat (sp_ix (d := D.int v_other.1) rfl (sp_var (i := 1)) sp_c)) (sa_cons (d := (D.int v_one.2)) (sp_flat (sp_ix (d := D.int v_one.2) rfl (sp_var (i := 0)) sp_c)) sa_nil)) (sim_lowered n v_other.1 v_one.2))) (fun (v_there : (Int × Int)) => (sx_ret (se_tup (ea := (e2 D.int D.int)) (T := fun t => (t.1, t.2.1)) (sa_consE (se_opP (ec := D.int) (k_mul v_here.1 v_there.1) (sp_ix (d := D.int v_here.1) rfl (sp_var (i := 2)) sp_c) (sp_ix (d := D.int v_there.1) rfl (sp_var (i := 3)) sp_c)) (sa_consE (se_opP (ec := D.int) (k_mul v_here.2 v_there.2) (sp_ix (d := D.int v_here.2) rfl (sp_var (i := 2)) sp_c) (sp_ix (d := D.int v_there.2) rfl (sp_var (i := 3)) sp_c)) sa_nilE)) (fun _ => rfl)))))))) (And.intro rfl (And.intro rfl (trivial)))
def G_under : List D → R Fl := (sSeq (sAsg 2 (eOp gSub (eOp gMul (eIx (eVar 1) (eC (.int 0))) (eIx (eVar 0) (eC (.int 1)))) (eOp gMul (eIx (eVar 0) (eC (.int 0))) (eIx (eVar 1) (eC (.int 1)))))) (sRet (eOp gGt (eVar 2) (eC (.int 0)))))
def M_under : List D → R D := runF 3 (G_under)
def T_under (v_one : (Int × Int)) (v_other : (Int × Int)) : R Bool := (((mulR v_other.1 v_one.2).bind fun x => (mulR v_one.1 v_other.2).bind fun y => R.ok (x - y)).bind fun (v_lacking : Int) => (R.ok (decide ((0 : Int) < v_lacking))))
theorem sim_under (v_one : (Int × Int)) (v_other : (Int × Int)) : Ref (M_under [(e2 D.int D.int) v_one, (e2 D.int D.int) v_other]) ((T_under v_one v_other).map D.bl) := by
  unfold M_under
  exact run_x (n := 3) (p := [some ((e2 D.int D.int) v_one), some ((e2 D.int D.int) v_other), none]) (by unfold G_under T_under; exact (sx_seq (sn_asg (i := 2) (ea := D.int) (P := fun (v_lacking : Int) => [some ((e2 D.int D.int) v_one), some ((e2 D.int D.int) v_other), some (D.int v_lacking)]) (se_op (ec := D.int) (h := fun (x : Int) (y : Int) => R.ok (x - y)) (fun x y => Ref.of (by first | rfl | (rw [rfl]; rfl))) (se_opP (ec := D.int) (k_mul v_other.1 v_one.2) (sp_ix (d := D.int v_other.1) rfl (sp_var (i := 1)) sp_c) (sp_ix (d := D.int v_one.2) rfl (sp_var (i := 0)) sp_c)) (se_opP (ec := D.int) (k_mul v_one.1 v_other.2) (sp_ix (d := D.int v_one.1) rfl (sp_var (i := 0)) sp_c) (sp_ix (d := D.int v_other.2) rfl (sp_var (i := 1)) sp_c)))) (fun (v_lacking : Int) => (sx_ret (SP.se (ea := D.bl) (x := (decide ((0 : Int) < v_lacking))) (sp_op (d := D.bl (decide ((0 : Int) < v_lacking))) rfl (sp_var (i := 2)) sp_c)))))) (And.intro rfl (And.intro rfl (trivial)))
def G_law_cell : List D → R Fl := (sSeq (sIf (tVal (eOp gLt (eVar 1) (eB gLen (aCons (eVar 0) aNil)))) (sRet (eFlat (eIx (eVar 0) (eVar 1)))) sNil) (sSeq (sAsg 2 (eOp gAdd (eC (.int 40009)) (eOp gMul (eOp gMul (eC (.int 613)) (eVar 1)) (eVar 1)))) (sSeq (sIf (tVal (eOp gGt (eB gLen (aCons (eVar 0) aNil)) (eC (.int 0)))) (sAsg 2 (eOp gAdd (eVar 2) (eOp gMul (eOp gMod (eIx (eVar 0) (eC (.int 0))) (eC (.int 99991))) (eOp gAdd (eVar 1) (eC (.int 3)))))) sNil) (sRet (eVar 2)))))
def M_law_cell : List D → R D := runF 3 (G_law_cell)
def T_law_cell (v_script : (List Int)) (v_k : Int) : R Int := ((R.ok (decide (v_k < (v_script.length : Int)))).bind fun b => if b then (atR v_script v_k) else ((R.ok ()).bind fun (_ : Unit) => R.ok ()).bind fun _ => (((R.ok (40009 : Int)).bind fun x => (mulR ((613 : Int) * v_k) v_k).bind fun y => R.ok (x + y)).bind fun (v_spare : Int) => (((R.ok (decide ((0 : Int) < (v_script.length : Int)))).bind fun b => if b then (((R.ok v_spare).bind fun x => (((atR v_script (0 : Int)).bind fun x => R.ok (x % (99991 : Int))).bind fun x => (R.ok (v_k + (3 : Int))).bind fun y => mulR x y).bind fun y => R.ok (x + y)).bind fun (v_spare : Int) => R.ok v_spare) else ((R.ok ()).bind fun (_ : Unit) => R.ok v_spare)).bind fun (v_spare : Int) => (R.ok v_spare))))
theorem sim_law_cell (v_script : (List Int)) (v_k : Int) : Ref (M_law_cell [(eL D.int) v_script, D.int v_k]) ((T_law_cell v_script v_k).map D.int) := by
  unfold M_law_cell
  exact run_x (n := 3) (p := [some ((eL D.int) v_script), some (D.int v_k), none]) (by unfold G_law_cell T_law_cell; exact (sx_ifT (SCp.sc (sc_val (sp_op (d := D.bl (decide (v_k < (v_script.length : Int)))) rfl (sp_var (i := 1)) (sp_b (d := D.int (v_script.length : Int)) (sa_cons (d := ((eL D.int) v_script)) (sp_var (i := 0)) sa_nil) (g_lenL _))))) (sx_ret (se_flat (se_ixP (ec := D.int) (k_atL v_script v_k) (sp_var (i := 0)) (sp_var (i := 1))))) (sn_yield (P := fun (_ : Unit) => [some ((eL D.int) v_script), some (D.int v_k), none]) sn_nil (fun (_ : Unit) => ()) (fun (_ : Unit) => by exact And.intro rfl (And.intro rfl (trivial)))) (fun _ => (sx_seq (sn_asg (i := 2) (ea := D.int) (P := fun (v_spare : Int) => [some ((eL D.int) v_script), some (D.int v_k), some (D.int v_spare)]) (se_op (ec := D.int) (h := fun (x : Int) (y : Int) => R.ok (x + y)) (fun x y => Ref.of (by first | rfl | (rw [rfl]; rfl))) (SP.se (ea := D.int) (x := (40009 : Int)) sp_c) (se_opP (ec := D.int) (k_mul ((613 : Int) * v_k) v_k) (sp_op (d := .int ((613 : Int) * v_k)) (g_mulL 613 v_k) sp_c (sp_var (i := 1))) (sp_var (i := 1))))) (fun (v_spare : Int) => (sx_seq (sn_if (SCp.sc (sc_val (sp_op (d := D.bl (decide ((0 : Int) < (v_script.length : Int)))) rfl (sp_b (d := D.int (v_script.length : Int)) (sa_cons (d := ((eL D.int) v_script)) (sp_var (i := 0)) sa_nil) (g_lenL _)) sp_c))) (sn_yield (P := fun (v_spare : Int) => [some ((eL D.int) v_script), some (D.int v_k), some (D.int v_spare)]) (sn_asg (i := 2) (ea := D.int) (P := fun (v_spare : Int) => [some ((eL D.int) v_script), some (D.int v_k), some (D.int v_spare)]) (se_op (ec := D.int) (h := fun (x : Int) (y : Int) => R.ok (x + y)) (fun x y => Ref.of (by first | rfl | (rw [rfl]; rfl))) (SP.se (ea := D.int) (x := v_spare) (sp_var (i := 2))) (se_op (ec := D.int) (h := fun x y => mulR x y) (fun x y => k_mul x y) (se_opC (ec := D.int) (h := fun x => R.ok (x % (99991 : Int))) (se_ixP (ec := D.int) (k_atL v_script (0 : Int)) (sp_var (i := 0)) sp_c) sp_c (fun x => Ref.of (by rw [g_modC x 99991]; rfl))) (SP.se (ea := D.int) (x := (v_k + (3 : Int))) (sp_op (d := D.int (v_k + (3 : Int))) rfl (sp_var (i := 1)) sp_c))))) (fun (v_spare : Int) => v_spare) (fun (v_spare : Int) => by exact And.intro rfl (And.intro rfl (And.intro rfl (trivial))))) (sn_yield (P := fun (v_spare : Int) => [some ((eL D.int) v_script), some (D.int v_k), some (D.int v_spare)]) sn_nil (fun (_ : Unit) => v_spare) (fun (_ : Unit) => by exact And.intro rfl (And.intro rfl (And.intro rfl (trivial)))))) (fun (v_spare : Int) => (sx_ret (SP.se (ea := D.int) (x := v_spare) (sp_var (i := 2))))))))))) (And.intro rfl (And.intro rfl (trivial)))
/-! ### guards -/
theorem mulR_ok {x y : Int} (h : IntMulOk x y) : mulR x y = .ok (x * y) := if_pos h
theorem divR_ok {x y : Int} (h : CDivP x y) : divR x y = .ok (x / y) := if_pos h
theorem modR_ok {x y : Int} (h : 0 < y) : modR x y = .ok (x % y) := if_pos h
theorem dmR_ok {x y : Int} (h : CDivP x y) : dmR x y = .ok (x / y, x % y) := if_pos h
theorem appR_ok {α : Type} {l : List α} {x : α} (h : l.length < sizeLine) : appR l x = .ok (l ++ [x]) := if_pos h
theorem catR_ok {α : Type} {a b : List α} (h : a.length + b.length ≤ sizeLine) : catR a b = .ok (a ++ b) := if_pos h
theorem fitN_ok {α : Type} {l : List α} (h : l.length ≤ sizeLine) : fitN l = .ok l := if_pos h
theorem sizeLine_eq : sizeLine = 16777216 := by decide
theorem rngR1_ok {j : Int} (h0 : -1000000000 ≤ j) (h1 : j ≤ 1000000000) : rngR1 j = .ok (rng 0 j) := if_pos ⟨by omega, by omega⟩
theorem rngR2_ok {i j : Int} (h0 : -1000000000 ≤ i) (h1 : i ≤ 1000000000) (h2 : -1000000000 ≤ j) (h3 : j ≤ 1000000000) : rngR2 i j = .ok (rng i j) := if_pos ⟨⟨by omega, by omega⟩, by omega, by omega⟩
theorem atR_nat {α : Type} {l : List α} {k : Nat} {x : α} (h : l[k]? = some x) : atR l (k : Int) = .ok x := by unfold atR; rw [atI_nat h]; rfl
theorem atR_of {α : Type} {l : List α} {k : Int} {x : α} (h0 : 0 ≤ k) (h : l[k.toNat]? = some x) : atR l k = .ok x := by
  have := atR_nat (k := k.toNat) h
  rwa [show ((k.toNat : Nat) : Int) = k by omega] at this
theorem atR_ex {α : Type} {l : List α} {k : Int} (h0 : 0 ≤ k) (h1 : k < l.length) : ∃ x, x ∈ l ∧ l[k.toNat]? = some x ∧ atR l k = .ok x := by
  have hk : k.toNat < l.length := by omega
  exact ⟨l[k.toNat], List.getElem_mem hk, List.getElem?_eq_getElem hk, atR_of h0 (List.getElem?_eq_getElem hk)⟩
theorem cmpR_map {α β : Type} {g : α → R β} {f : α → β} : ∀ {l : List α}, (∀ x ∈ l, g x = .ok (f x)) → cmpR (fun _ => R.ok true) g l = .ok (l.map f)
  | [], _ => rfl
  | x :: xs, h => by
    rw [cmpR, h x (by simp), cmpR_map (l := xs) fun y hy => h y (by simp [hy])]
    rfl
theorem cmpR_filter {α β : Type} {c : α → R Bool} {g : α → R β} {p : α → Bool} {f : α → β} : ∀ {l : List α}, (∀ x ∈ l, c x = .ok (p x)) → (∀ x ∈ l, p x = true → g x = .ok (f x)) → cmpR c g l = .ok ((l.filter p).map f)
  | [], _, _ => rfl
  | x :: xs, h, h2 => by
    rw [cmpR, h x (by simp), cmpR_filter (l := xs) (fun y hy => h y (by simp [hy])) (fun y hy => h2 y (by simp [hy]))]
    cases e : p x with
    | true => rw [List.filter_cons_of_pos e, h2 x (by simp) e]; rfl
    | false => rw [List.filter_cons_of_neg (by rw [e]; decide)]; rfl
theorem cmpR_all {α β : Type} {g : α → R β} {Q : α → β → Prop} : ∀ {l : List α}, (∀ x ∈ l, ∃ y, g x = .ok y ∧ Q x y) → ∃ ys, cmpR (fun _ => R.ok true) g l = .ok ys ∧ ys.length = l.length ∧ ∀ (i : Nat) x y, l[i]? = some x → ys[i]? = some y → Q x y
  | [], _ => ⟨[], rfl, rfl, fun i x y h => by simp at h⟩
  | x :: xs, h => by
    obtain ⟨y, h1, h2⟩ := h x (by simp)
    obtain ⟨ys, h3, h4, h5⟩ := cmpR_all (l := xs) fun z hz => h z (by simp [hz])
    refine ⟨y :: ys, by rw [cmpR, h1, h3]; rfl, by simp [h4], fun i a b ha hb => ?_⟩
    cases i with
    | zero => cases ha; cases hb; exact h2
    | succ i => exact h5 i a b (by simpa using ha) (by simpa using hb)
/-- a loop by an invariant -/
theorem foldR_inv {σ α : Type} {f : σ → α → R σ} (I : List α → σ → Prop) : ∀ (l : List α) (s : σ), I l s → (∀ a l s, I (a :: l) s → ∃ s', f s a = .ok s' ∧ I l s') → ∃ s', foldR f l s = .ok s' ∧ I [] s'
  | [], s, h, _ => ⟨s, rfl, h⟩
  | a :: l, s, h, st => by
    obtain ⟨s', h1, h2⟩ := st a l s h
    obtain ⟨s'', h3, h4⟩ := foldR_inv I l s' h2 st
    exact ⟨s'', by rw [foldR, h1]; exact h3, h4⟩
theorem foldR_eq {σ α : Type} {f : σ → α → R σ} {g : σ → α → σ} : ∀ (l : List α) (s : σ), (∀ s a, a ∈ l → f s a = .ok (g s a)) → foldR f l s = .ok (l.foldl g s)
  | [], _, _ => rfl
  | a :: l, s, h => by
    rw [foldR, h s a (by simp), R.bind_ok, List.foldl_cons]
    exact foldR_eq l _ fun s b hb => h s b (by simp [hb])
theorem gcd_step (a b : Int) (hb : 0 < b) (ha : 0 ≤ a) : Int.gcd b (a % b) = Int.gcd a b := by
  obtain ⟨m, rfl⟩ : ∃ m : Nat, a = m := ⟨a.toNat, by omega⟩
  obtain ⟨k, rfl⟩ : ∃ k : Nat, b = k := ⟨b.toNat, by omega⟩
  have e : ((m : Int) % (k : Int)) = ((m % k : Nat) : Int) := by omega
  rw [e, Int.gcd_natCast_natCast, Int.gcd_natCast_natCast, Nat.gcd_comm m k, Nat.gcd_rec k m, Nat.gcd_comm]
def sm (z : Int) : Prop := z.natAbs < 2 ^ 3000
instance (z : Int) : Decidable (sm z) := inferInstanceAs (Decidable (_ < _))
theorem sm_8000 {z : Int} {n : Nat} (h : z.natAbs < 2 ^ n) (hn : n ≤ 8000) : z.natAbs < 2 ^ 8000 := Nat.lt_of_lt_of_le h (Nat.pow_le_pow_right (by decide) hn)
theorem lt_pow {x n m : Nat} (h : x < 2 ^ n) (hn : n ≤ m) : x < 2 ^ m := Nat.lt_of_lt_of_le h (Nat.pow_le_pow_right (by decide) hn)
theorem mul_lt_pow {a b : Int} {n m : Nat} (ha : a.natAbs < 2 ^ n) (hb : b.natAbs < 2 ^ m) : (a * b).natAbs < 2 ^ (n + m) := by
  rw [Int.natAbs_mul, Nat.pow_add]
  exact Nat.mul_lt_mul'' ha hb
theorem add_lt_pow {a b : Int} {n : Nat} (ha : a.natAbs < 2 ^ n) (hb : b.natAbs < 2 ^ n) : (a + b).natAbs < 2 ^ (n + 1) := by
  have := Int.natAbs_add_le a b
  rw [Nat.pow_succ]
  omega
theorem div_lt_pow {a b : Int} {n : Nat} (ha : a.natAbs < 2 ^ n) : (a / b).natAbs < 2 ^ n := Nat.lt_of_le_of_lt (Int.natAbs_ediv_le_natAbs a b) ha
theorem gcd_lt_pow {a b : Int} {n : Nat} (hb : 0 < b) (h : b.natAbs < 2 ^ n) : ((Int.gcd a b : Nat) : Int).natAbs < 2 ^ n := by
  have := Int.le_of_dvd hb (Int.gcd_dvd_right (a := a) (b := b))
  omega
theorem gcd_pos {a b : Int} (hb : 0 < b) : 0 < (Int.gcd a b : Int) := by
  have : 0 < Int.gcd a b := Int.gcd_pos_iff.mpr (by omega)
  omega
theorem low_nn {a b : Int} (ha : 0 ≤ a) : 0 ≤ a / (Int.gcd a b : Int) := Int.ediv_nonneg ha (Int.natCast_nonneg _)
theorem low_pos {a b : Int} (hb : 0 < b) : 0 < b / (Int.gcd a b : Int) := Int.ediv_pos_of_pos_of_dvd hb (Int.natCast_nonneg _) (Int.gcd_dvd_right ..)
theorem low_one {a b : Int} (hb : 0 < b) : Int.gcd (a / (Int.gcd a b : Int)) (b / (Int.gcd a b : Int)) = 1 := Int.gcd_ediv_gcd_ediv_gcd (Int.gcd_pos_iff.mpr (by omega))
theorem low_cross {a b : Int} : a / (Int.gcd a b : Int) * b = a * (b / (Int.gcd a b : Int)) := by
  obtain ⟨x, hx⟩ := Int.gcd_dvd_left (a := a) (b := b)
  obtain ⟨y, hy⟩ := Int.gcd_dvd_right (a := a) (b := b)
  by_cases h : (Int.gcd a b : Int) = 0
  · rw [h, Int.ediv_zero, Int.ediv_zero]; simp
  · have e1 : a / (Int.gcd a b : Int) = x := Int.ediv_eq_of_eq_mul_right h hx
    have e2 : b / (Int.gcd a b : Int) = y := Int.ediv_eq_of_eq_mul_right h hy
    rw [e1, e2]
    generalize (Int.gcd a b : Int) = g at *
    subst hx hy
    rw [← Int.mul_assoc, Int.mul_comm x g]
theorem dvd_of_one {b a d : Int} (h : b ∣ a * d) (g : Int.gcd b a = 1) : b ∣ d := by
  have h1 : b ∣ (Int.gcd b (a * d) : Int) := Int.dvd_coe_gcd (Int.dvd_refl b) h
  rw [Int.gcd_mul_right_right_of_gcd_eq_one g] at h1
  exact Int.dvd_trans h1 (Int.gcd_dvd_right ..)
theorem eq_of_cross {a b c d : Int} (ha : 0 ≤ a) (hb : 0 < b) (hc : 0 ≤ c) (hd : 0 < d) (g1 : Int.gcd a b = 1) (g2 : Int.gcd c d = 1) (h : a * d = c * b) : a = c ∧ b = d := by
  have h1 : b ∣ d := by
    have : b ∣ a * d := ⟨c, by rw [h, Int.mul_comm]⟩
    exact dvd_of_one this (by rw [Int.gcd_comm]; exact g1)
  have h2 : d ∣ b := by
    have : d ∣ c * b := ⟨a, by rw [← h, Int.mul_comm]⟩
    exact dvd_of_one this (by rw [Int.gcd_comm]; exact g2)
  have e : b = d := Int.le_antisymm (Int.le_of_dvd hd h1) (Int.le_of_dvd hb h2)
  subst e
  exact ⟨Int.eq_of_mul_eq_mul_right (by omega) h, rfl⟩
abbrev Fra := Int × Int
def red (a b : Int) : Fra := (a / Int.gcd a b, b / Int.gcd a b)
/-- a fraction in lowest terms that is as great is the one -/
theorem red_of {x y a b : Int} (hx : 0 ≤ x) (hy : 0 < y) (ha : 0 ≤ a) (hb : 0 < b) (g : Int.gcd x y = 1) (h : x * b = a * y) : (x, y) = red a b := by
  have := eq_of_cross hx hy (low_nn (b := b) ha) (low_pos (a := a) hb) g (low_one hb) (by
    have e := low_cross (a := a) (b := b)
    have hg := Int.ediv_mul_cancel (Int.gcd_dvd_right (a := a) (b := b))
    have hh := Int.ediv_mul_cancel (Int.gcd_dvd_left (a := a) (b := b))
    have gp := gcd_pos (a := a) hb
    refine Int.eq_of_mul_eq_mul_right (show (Int.gcd a b : Int) ≠ 0 by omega) ?_
    rw [Int.mul_assoc, hg, h, Int.mul_right_comm, hh])
  rw [red, ← this.1, ← this.2]
theorem red_self {x y : Int} (g : Int.gcd x y = 1) : red x y = (x, y) := by
  unfold red
  rw [g]
  simp
theorem red_eq {a b c d : Int} (ha : 0 ≤ a) (hb : 0 < b) (hc : 0 ≤ c) (hd : 0 < d) (h : a * d = c * b) : red a b = red c d := by
  refine red_of (low_nn ha) (low_pos hb) hc hd (low_one hb) ?_
  have e := low_cross (a := a) (b := b)
  refine Int.eq_of_mul_eq_mul_right (show b ≠ 0 by omega) ?_
  rw [Int.mul_right_comm, e, Int.mul_right_comm, h]
  rw [Int.mul_assoc, Int.mul_comm b, ← Int.mul_assoc]
theorem divP_gcd {a b : Int} (c : Int) (hb : 0 < b) (hz : b.natAbs < 2 ^ 8000) : CDivP c (Int.gcd a b : Int) := divP_of (gcd_pos hb) (lt_pow (gcd_lt_pow hb hz) (by decide))
structure FrOk (a b : Int) : Prop where
  nn : 0 ≤ a
  pos : 0 < b
  sa : sm a
  sb : sm b
instance (a b : Int) : Decidable (FrOk a b) := decidable_of_iff (0 ≤ a ∧ 0 < b ∧ sm a ∧ sm b) ⟨fun h => ⟨h.1, h.2.1, h.2.2.1, h.2.2.2⟩, fun h => ⟨h.nn, h.pos, h.sa, h.sb⟩⟩
theorem mulOk_sm {a b : Int} {n m : Nat} (ha : a.natAbs < 2 ^ n) (hb : b.natAbs < 2 ^ m) (h : n + m ≤ 134217728 := by decide) : IntMulOk a b := mulOk_bits ha hb h
theorem sm_of_le {x y : Int} (h0 : 0 ≤ x) (h : x ≤ y) (hy : sm y) : sm x := by
  unfold sm at *
  omega
theorem red_ok {X Y : Int} (hX : 0 ≤ X) (hY : 0 < Y) (sX : sm X) (sY : sm Y) : FrOk (red X Y).1 (red X Y).2 := ⟨low_nn hX, low_pos hY, div_lt_pow sX, div_lt_pow sY⟩
theorem red_plus {X Y n d : Int} (hX : 0 ≤ X) (hY : 0 < Y) (hn : 0 ≤ n) (hd : 0 < d) : red ((red X Y).1 * d + n * (red X Y).2) ((red X Y).2 * d) = red (X * d + n * Y) (Y * d) := by
  have p0 := low_nn (b := Y) hX
  have q0 := low_pos (a := X) hY
  have c := low_cross (a := X) (b := Y)
  show red (X / (Int.gcd X Y : Int) * d + n * (Y / (Int.gcd X Y : Int))) (Y / (Int.gcd X Y : Int) * d) = _
  generalize X / (Int.gcd X Y : Int) = p at *
  generalize Y / (Int.gcd X Y : Int) = q at *
  refine red_eq (Int.add_nonneg (Int.mul_nonneg p0 (by omega)) (Int.mul_nonneg hn (by omega))) (Int.mul_pos q0 hd) (Int.add_nonneg (Int.mul_nonneg hX (by omega)) (Int.mul_nonneg hn (by omega))) (Int.mul_pos hY hd) ?_
  have e1 : (p * d + n * q) * (Y * d) = (p * Y) * (d * d) + n * q * Y * d := by rw [Int.add_mul]; congr 1 <;> ac_rfl
  have e2 : (X * d + n * Y) * (q * d) = (X * q) * (d * d) + n * q * Y * d := by rw [Int.add_mul]; congr 1 <;> ac_rfl
  rw [e1, e2, c]
theorem gcd_mul_one {x y z : Int} (h1 : Int.gcd x z = 1) (h2 : Int.gcd y z = 1) : Int.gcd (x * y) z = 1 := by
  rw [Int.gcd_mul_right_left_of_gcd_eq_one h1]
  exact h2
/-! ### the functions -/
theorem whl_divisor : ∀ (n : Nat) (a b : Int), 0 ≤ a → 0 ≤ b → b.natAbs < 2 ^ 8000 → b.toNat < n → whileR T_divisor_c2 T_divisor_w1 n (a, b) = .ok ((Int.gcd a b : Int), 0)
  | 0, _, _, _, _, _, h => by omega
  | n + 1, a, b, ha, hb, hz, h => by
    by_cases h0 : b = 0
    · subst h0
      have e : ((Int.gcd a 0 : Nat) : Int) = a := by rw [Int.gcd_zero_right]; omega
      rw [e]
      simp [whileR, T_divisor_c2]
    · have hp : 0 < b := by omega
      have hd : CDivP a b := divP_of hp (Nat.lt_trans hz (Nat.pow_lt_pow_right (by decide) (by decide)))
      have hm := Int.emod_nonneg a (show b ≠ 0 by omega)
      have hl := Int.emod_lt_of_pos a hp
      have ih := whl_divisor n b (a % b) hb hm (Nat.lt_trans (show (a % b).natAbs < b.natAbs by omega) hz) (by omega)
      rw [← gcd_step a b hp ha, ← ih, whileR]
      simp [T_divisor_c2, T_divisor_w1, hp, dmR_ok hd]
theorem T_divisor_eq {n : Nat} {a b : Int} (ha : 0 ≤ a) (hb : 0 ≤ b) (hz : b.natAbs < 2 ^ 8000) (hn : 2 ^ 8000 ≤ n) : T_divisor n a b = .ok (Int.gcd a b : Int) := by
  unfold T_divisor
  rw [whl_divisor n a b ha hb hz (by omega)]
  rfl
theorem T_lowered_eq {n : Nat} {a b : Int} (ha : 0 ≤ a) (hb : 0 < b) (hz : b.natAbs < 2 ^ 8000) (hn : 2 ^ 8000 ≤ n) : T_lowered n a b = .ok (red a b) := by
  unfold T_lowered
  have p1 := divP_gcd (a := a) a hb hz
  have p2 := divP_gcd (a := a) b hb hz
  rw [T_divisor_eq ha (by omega) hz hn]
  simp [divR_ok p1, divR_ok p2, red]
theorem T_ratio_eq {n : Nat} {a b : Int} (ha : 0 ≤ a) (hb : 0 < b) (hz : b.natAbs < 2 ^ 8000) (hn : 2 ^ 8000 ≤ n) : T_ratio n a b = .ok (red a b) := by
  unfold T_ratio
  simp [show ¬ a < 0 by omega, show ¬ b < 1 by omega, T_lowered_eq ha hb hz hn]
theorem T_ratio_ex {n : Nat} {a b : Int} (h : a < 0 ∨ b < 1) : T_ratio n a b = .ex "NoRatio" := by
  unfold T_ratio
  have : (decide (a < 0) || decide (b < 1)) = true := by simp; exact h
  simp only [this, R.bind_ok, if_true, R.bind_ex]
theorem T_plus_eq {n : Nat} {f g : Fra} (h1 : FrOk f.1 f.2) (h2 : FrOk g.1 g.2) (hn : 2 ^ 8000 ≤ n) : T_plus n f g = .ok (red (f.1 * g.2 + g.1 * f.2) (f.2 * g.2)) := by
  obtain ⟨a, b⟩ := f
  obtain ⟨c, d⟩ := g
  simp only at h1 h2 ⊢
  have a0 := h1.nn
  have b0 := h1.pos
  have c0 := h2.nn
  have d0 := h2.pos
  have d8 := sm_8000 h2.sb (by decide)
  have e := T_divisor_eq (a := b) (b := d) (by omega) (by omega) d8 hn
  have gp := gcd_pos (a := b) d0
  have p1 := divP_gcd (a := b) d d0 d8
  have p2 := divP_gcd (a := b) b d0 d8
  obtain ⟨x, hx⟩ := Int.gcd_dvd_left (a := b) (b := d)
  obtain ⟨y, hy⟩ := Int.gcd_dvd_right (a := b) (b := d)
  have sx : sm (b / (Int.gcd b d : Int)) := div_lt_pow h1.sb
  have sy : sm (d / (Int.gcd b d : Int)) := div_lt_pow h2.sb
  have ex : b / (Int.gcd b d : Int) = x := Int.ediv_eq_of_eq_mul_right (by omega) hx
  have ey : d / (Int.gcd b d : Int) = y := Int.ediv_eq_of_eq_mul_right (by omega) hy
  rw [ex] at sx
  rw [ey] at sy
  generalize (Int.gcd b d : Int) = g at *
  have x0 : 0 < x := by
    refine Int.pos_of_mul_pos_right (a := g) ?_ gp
    omega
  have y0 : 0 < y := by
    refine Int.pos_of_mul_pos_right (a := g) ?_ gp
    omega
  have m1 : IntMulOk a y := mulOk_sm h1.sa sy
  have m2 : IntMulOk c x := mulOk_sm h2.sa sx
  have m3 : IntMulOk b y := mulOk_sm h1.sb sy
  have t0 : 0 ≤ a * y + c * x := Int.add_nonneg (Int.mul_nonneg a0 (by omega)) (Int.mul_nonneg c0 (by omega))
  have q0 : 0 < b * y := Int.mul_pos b0 y0
  have f := T_lowered_eq t0 q0 (lt_pow (mul_lt_pow h1.sb sy) (by decide)) hn
  have fin : red (a * y + c * x) (b * y) = red (a * d + c * b) (b * d) := by
    refine red_eq t0 q0 (Int.add_nonneg (Int.mul_nonneg a0 (by omega)) (Int.mul_nonneg c0 (by omega))) (Int.mul_pos b0 d0) ?_
    rw [hy]
    rw [hx]
    simp only [Int.add_mul, Int.mul_add]
    ac_rfl
  unfold T_plus
  simp only [e, R.bind_ok, divR_ok p1, divR_ok p2, ex, ey, mulR_ok m1, mulR_ok m2, mulR_ok m3, f, fin]
theorem T_times_eq {n : Nat} {f g : Fra} (h1 : FrOk f.1 f.2) (h2 : FrOk g.1 g.2) (g1 : Int.gcd f.1 f.2 = 1) (g2 : Int.gcd g.1 g.2 = 1) (hn : 2 ^ 8000 ≤ n) : T_times n f g = .ok (red (f.1 * g.1) (f.2 * g.2)) := by
  obtain ⟨a, b⟩ := f
  obtain ⟨c, d⟩ := g
  simp only at h1 h2 g1 g2 ⊢
  have f1 := T_lowered_eq h1.nn h2.pos (sm_8000 h2.sb (by decide)) hn
  have f2 := T_lowered_eq h2.nn h1.pos (sm_8000 h1.sb (by decide)) hn
  have s1 : sm (a / (Int.gcd a d : Int)) := div_lt_pow h1.sa
  have s2 : sm (d / (Int.gcd a d : Int)) := div_lt_pow h2.sb
  have s3 : sm (c / (Int.gcd c b : Int)) := div_lt_pow h2.sa
  have s4 : sm (b / (Int.gcd c b : Int)) := div_lt_pow h1.sb
  have n1 := low_nn (b := d) h1.nn
  have n2 := low_pos (a := a) h2.pos
  have n3 := low_nn (b := b) h2.nn
  have n4 := low_pos (a := c) h1.pos
  have o1 := low_one (a := a) h2.pos
  have o2 := low_one (a := c) h1.pos
  have c1 := low_cross (a := a) (b := d)
  have c2 := low_cross (a := c) (b := b)
  have d1 : a / (Int.gcd a d : Int) ∣ a := Int.ediv_dvd_of_dvd (Int.gcd_dvd_left ..)
  have d2 : d / (Int.gcd a d : Int) ∣ d := Int.ediv_dvd_of_dvd (Int.gcd_dvd_right ..)
  have d3 : c / (Int.gcd c b : Int) ∣ c := Int.ediv_dvd_of_dvd (Int.gcd_dvd_left ..)
  have d4 : b / (Int.gcd c b : Int) ∣ b := Int.ediv_dvd_of_dvd (Int.gcd_dvd_right ..)
  unfold red at f1 f2
  generalize a / (Int.gcd a d : Int) = p at *
  generalize d / (Int.gcd a d : Int) = q at *
  generalize c / (Int.gcd c b : Int) = r at *
  generalize b / (Int.gcd c b : Int) = s at *
  have m1 : IntMulOk p r := mulOk_sm s1 s3
  have m2 : IntMulOk q s := mulOk_sm s2 s4
  have one {x y u v : Int} (h : Int.gcd x y = 1) (hx : u ∣ x) (hy : v ∣ y) : Int.gcd u v = 1 := by
    have := Nat.dvd_trans (Int.gcd_dvd_gcd_of_dvd_left v hx) (Int.gcd_dvd_gcd_of_dvd_right x hy)
    rw [h] at this
    exact Nat.dvd_one.mp this
  have k1 : Int.gcd p s = 1 := one g1 d1 d4
  have k2 : Int.gcd r q = 1 := one g2 d3 d2
  have k : Int.gcd (p * r) (q * s) = 1 := by
    have a1 : Int.gcd (p * r) q = 1 := gcd_mul_one o1 k2
    have a2 : Int.gcd (p * r) s = 1 := gcd_mul_one k1 o2
    rw [Int.gcd_comm] at a1 a2 ⊢
    exact gcd_mul_one a1 a2
  have fin : (p * r, q * s) = red (a * c) (b * d) := by
    refine red_of (Int.mul_nonneg n1 n3) (Int.mul_pos n2 n4) (Int.mul_nonneg h1.nn h2.nn) (Int.mul_pos h1.pos h2.pos) k ?_
    have e : p * r * (b * d) = (p * d) * (r * b) := by ac_rfl
    rw [e, c1, c2]
    ac_rfl
  unfold T_times
  simp only [f1, f2, R.bind_ok, mulR_ok m1, mulR_ok m2, fin]
theorem whl_law_divisor : ∀ (n : Nat) (a b : Int), 0 ≤ a → 0 ≤ b → b.toNat < n → whileR T_law_divisor_c2 T_law_divisor_w1 n (a, b) = .ok ((Int.gcd a b : Int), 0)
  | 0, _, _, _, _, h => by omega
  | n + 1, a, b, ha, hb, h => by
    by_cases h0 : b = 0
    · subst h0
      have e : ((Int.gcd a 0 : Nat) : Int) = a := by rw [Int.gcd_zero_right]; omega
      rw [e]
      simp [whileR, T_law_divisor_c2]
    · have hp : 0 < b := by omega
      have hm := Int.emod_nonneg a (show b ≠ 0 by omega)
      have hl := Int.emod_lt_of_pos a hp
      have ih := whl_law_divisor n b (a % b) hb hm (by omega)
      rw [← gcd_step a b hp ha, ← ih, whileR]
      simp [T_law_divisor_c2, T_law_divisor_w1, hp, modR_ok hp]
theorem T_law_divisor_eq {n : Nat} {a b : Int} (ha : 0 ≤ a) (hb : 0 ≤ b) (hz : b.natAbs < 2 ^ 8000) (hn : 2 ^ 8000 ≤ n) : T_law_divisor n a b = .ok (Int.gcd a b : Int) := by
  unfold T_law_divisor
  rw [whl_law_divisor n a b ha hb (by omega)]
  rfl
theorem T_law_fraction_eq {n : Nat} {f : Fra} {a b : Int} (x0 : 0 ≤ f.1) (y0 : 0 < f.2) (sx : sm f.1) (sy : sm f.2) (sa : sm a) (sb : sm b) (hn : 2 ^ 8000 ≤ n) : T_law_fraction n f a b = .ok (decide (f.1 * b = a * f.2 ∧ Int.gcd f.1 f.2 = 1)) := by
  obtain ⟨x, y⟩ := f
  simp only at x0 y0 sx sy ⊢
  have m1 : IntMulOk x b := mulOk_sm sx sb
  have m2 : IntMulOk a y := mulOk_sm sa sy
  have e := T_law_divisor_eq x0 (Int.le_of_lt y0) (sm_8000 sy (by decide)) hn
  unfold T_law_fraction T_law_is_whole
  by_cases c : x * b = a * y
  · simp [show ¬ x < 0 by omega, show ¬ y < 1 by omega, mulR_ok m1, mulR_ok m2, c, e]
    norm_cast
  · simp [show ¬ x < 0 by omega, show ¬ y < 1 by omega, mulR_ok m1, mulR_ok m2, c]
theorem T_law_fraction_red {n : Nat} {a b : Int} (h : FrOk a b) (hn : 2 ^ 8000 ≤ n) : T_law_fraction n (red a b) a b = .ok true := by
  rw [T_law_fraction_eq (f := red a b) (low_nn h.nn) (low_pos h.pos) (div_lt_pow h.sa) (div_lt_pow h.sb) h.sa h.sb hn, decide_eq_true ⟨low_cross, low_one h.pos⟩]
theorem T_under_eq {f g : Fra} (h1 : FrOk f.1 f.2) (h2 : FrOk g.1 g.2) : T_under f g = .ok (decide (f.1 * g.2 < g.1 * f.2)) := by
  have m1 : IntMulOk g.1 f.2 := mulOk_sm h2.sa h1.sb
  have m2 : IntMulOk f.1 g.2 := mulOk_sm h1.sa h2.sb
  unfold T_under
  simp only [mulR_ok m1, mulR_ok m2, R.bind_ok]
  congr 1
  rw [decide_eq_decide]
  omega
/-! ### cells -/
def cell (ns : List Int) (k : Nat) : Int := match ns[k]? with
  | some z => z
  | none => 40009 + 613 * k * k + (match ns with | [] => 0 | x :: _ => x % 99991 * (k + 3))
theorem T_law_cell_nat (ns : List Int) (k : Nat) (h1 : k < 4294967296) : T_law_cell ns k = .ok (cell ns k) := by
  unfold T_law_cell cell
  cases e : ns[k]? with
  | some z =>
    have hk : k < ns.length := (List.getElem?_eq_some_iff.mp e).1
    have hk' : (k : Int) < (ns.length : Int) := by omega
    simp [hk, atR_nat e]
  | none =>
    have hk : ¬ k < ns.length := fun z => by rw [List.getElem?_eq_getElem z] at e; cases e
    have m2 : IntMulOk (613 * (k : Int)) (k : Int) := mulOk_right (by omega) (by omega)
    cases ns with
    | nil =>
      have hk0 : ¬ (k : Int) < 0 := by omega
      simp [mulR_ok m2, hk0]
    | cons x r =>
      have m3 : IntMulOk (x % 99991) ((k : Int) + 3) := mulOk_left (by omega) (by omega)
      have a0 : atR (x :: r) 0 = .ok x := atR_nat (k := 0) rfl
      have hk2 : ¬ k < r.length + 1 := by simpa using hk
      have hk3 : ¬ (k : Int) < (r.length : Int) + 1 := by omega
      have hp : (0 : Int) < (r.length : Int) + 1 := by omega
      simp [mulR_ok m2, mulR_ok m3, a0, hk3, hp]
theorem T_law_cell_eq (ns : List Int) {k : Int} (h0 : 0 ≤ k) (h1 : k < 4294967296) : T_law_cell ns k = .ok (cell ns k.toNat) := by
  have := T_law_cell_nat ns k.toNat (by omega)
  rwa [show ((k.toNat : Nat) : Int) = k by omega] at this
theorem sm_small {z : Int} (h : z.natAbs < 2 ^ 200) : sm z := Nat.lt_of_lt_of_le h (Nat.pow_le_pow_right (by decide) (by decide))
theorem red_zero {t : Int} (ht : 0 < t) : red 0 t = (0, 1) := by
  unfold red
  rw [Int.gcd_zero_left]
  have e : ((t.natAbs : Nat) : Int) = t := by omega
  rw [e, Int.zero_ediv, Int.ediv_self (by omega)]
theorem red_one {t : Int} (ht : 0 < t) : red t t = (1, 1) := by
  unfold red
  rw [Int.gcd_self]
  have e : ((t.natAbs : Nat) : Int) = t := by omega
  rw [e, Int.ediv_self (by omega)]
theorem plus_red {n : Nat} {a b t : Int} (ha : 0 ≤ a) (hb : 0 ≤ b) (ht : 0 < t) (sa : sm a) (sb : sm b) (st : sm t) (hn : 2 ^ 8000 ≤ n) : T_plus n (red a t) (red b t) = .ok (red (a + b) t) := by
  have h2 := red_ok hb ht sb st
  rw [T_plus_eq (red_ok ha ht sa st) h2 hn, red_plus ha ht h2.nn h2.pos]
  refine congrArg R.ok (red_eq ?_ (Int.mul_pos ht h2.pos) (by omega) ht ?_)
  · exact Int.add_nonneg (Int.mul_nonneg ha (Int.le_of_lt h2.pos)) (Int.mul_nonneg h2.nn (by omega))
  · have c : (red b t).1 * t = b * (red b t).2 := low_cross
    rw [c, ← Int.add_mul, Int.mul_assoc, Int.mul_comm t]
theorem sum_nn : ∀ {zs : List Int}, (∀ z ∈ zs, 0 ≤ z) → 0 ≤ zs.sum
  | [], _ => by simp
  | z :: zs, h => by
    rw [List.sum_cons]
    have := h z (by simp)
    have := sum_nn (zs := zs) fun y hy => h y (by simp [hy])
    omega
theorem added_red {n : Nat} {t : Int} (ht : 0 < t) (st : sm t) (hn : 2 ^ 8000 ≤ n) : ∀ (zs : List Int) (a : Int), 0 ≤ a → (∀ z ∈ zs, 0 ≤ z) → sm (a + zs.sum) → foldR (T_added_b1 n) (zs.map fun z => red z t) (red a t) = .ok (red (a + zs.sum) t)
  | [], a, _, _, _ => by simp [foldR]
  | z :: zs, a, ha, hz, hs => by
    have z0 := hz z (by simp)
    have s0 : 0 ≤ zs.sum := sum_nn fun y hy => hz y (by simp [hy])
    rw [List.sum_cons] at hs ⊢
    have sa : sm a := sm_of_le ha (by omega) hs
    have sz : sm z := sm_of_le z0 (by omega) hs
    rw [List.map_cons, foldR, T_added_b1, plus_red ha z0 ht sa sz st hn]
    have := added_red ht st hn zs (a + z) (by omega) (fun y hy => hz y (by simp [hy])) (by rw [Int.add_assoc]; exact hs)
    rw [Int.add_assoc] at this
    exact this
theorem T_added_red {n : Nat} {t : Int} (ht : 0 < t) (st : sm t) (hn : 2 ^ 8000 ≤ n) {zs : List Int} (hz : ∀ z ∈ zs, 0 ≤ z) (hs : sm zs.sum) : T_added n (zs.map fun z => red z t) = .ok (red zs.sum t) := by
  have := added_red ht st hn zs 0 (by decide) hz (by simpa using hs)
  rw [red_zero ht, Int.zero_add] at this
  unfold T_added
  simp only [R.bind_ok, this]
theorem eqR_self {α : Type} [DecidableEq α] {f : α → D} {x : α} (h : plD 20 (f x) = true) : eqR f x x = .ok true := by unfold eqR; rw [h]; simp
theorem neR_self {α : Type} [DecidableEq α] {f : α → D} {x : α} (h : plD 20 (f x) = true) : neR f x x = .ok false := by unfold neR; rw [h]; simp
theorem plL {α : Type} {f : α → D} {k : Nat} {l : List α} (h : ∀ x ∈ l, plD k (f x) = true) : plD (k + 1) (eL f l) = true := by
  show (l.map f).all (plD k) = true
  rw [List.all_eq_true]
  intro d hd
  obtain ⟨x, hx, rfl⟩ := List.mem_map.mp hd
  exact h x hx
theorem plT {α : Type} {f : α → D} {k : Nat} {l : List α} (h : ∀ x ∈ l, plD k (f x) = true) : plD (k + 1) (eT f l) = true := by
  show (l.map f).all (plD k) = true
  rw [List.all_eq_true]
  intro d hd
  obtain ⟨x, hx, rfl⟩ := List.mem_map.mp hd
  exact h x hx
theorem pl2 {α β : Type} {f : α → D} {g : β → D} {k : Nat} {p : α × β} (h1 : plD k (f p.1) = true) (h2 : plD k (g p.2) = true) : plD (k + 1) (e2 f g p) = true := by
  show [f p.1, g p.2].all (plD k) = true
  simp [h1, h2]
theorem plI (k : Nat) (x : Int) : plD k (.int x) = true := plD_int k x
/-! ### draws -/
theorem cutL_take {α : Type} (xs : List α) {k : Int} (h : 0 ≤ k) : cutL xs none (some k) = xs.take k.toNat := by
  obtain ⟨m, rfl⟩ : ∃ m : Nat, k = m := ⟨k.toNat, by omega⟩
  rw [cutL_upto]
  rfl
theorem cutL_drop {α : Type} (xs : List α) {k : Int} (h : 0 ≤ k) : cutL xs (some k) none = xs.drop k.toNat := by
  obtain ⟨m, rfl⟩ : ∃ m : Nat, k = m := ⟨k.toNat, by omega⟩
  unfold cutL
  rw [HT.sIx_nat, HT.sIx_none, Int.toNat_natCast]
  by_cases h2 : m ≤ xs.length
  · rw [Nat.min_eq_left h2, List.take_of_length_le (by simp)]
  · have : xs.length ≤ m := by omega
    rw [Nat.min_eq_right this, List.drop_eq_nil_of_le this, List.drop_length]
    simp
theorem setR_ok {α : Type} {l : List α} {k : Int} {x : α} (h0 : 0 ≤ k) (h1 : k < l.length) : setR l k x = .ok (l.set k.toNat x) := by
  unfold setR ixN
  rw [if_pos h0, if_pos h1]
  rfl
theorem draws_ok (ns : List Int) : ∃ ds : List Int, T_law_draws ns = .ok ds ∧ ds.length = 96 ∧ ∀ d ∈ ds, 0 ≤ d ∧ d < 10 ^ 18 := by
  have hf0 : 0 ≤ (List.sum (cutL ns none (some 1))) % 2147483629 := Int.emod_nonneg _ (by decide)
  have hf1 : (List.sum (cutL ns none (some 1))) % 2147483629 < 2147483629 := Int.emod_lt_of_pos _ (by decide)
  unfold T_law_draws
  generalize (List.sum (cutL ns none (some 1))) % 2147483629 = fi at *
  obtain ⟨s, h1, h2, h3, h4⟩ := foldR_inv (f := T_law_draws_b1 fi) (fun l s => s.2.length + l.length = 96 ∧ (∀ d ∈ s.2, 0 ≤ d ∧ d < 10 ^ 18) ∧ ∀ a ∈ l, 0 ≤ a ∧ a < 96) (rng 0 96) (cutL ns none (some 63), []) ⟨by show 0 + (rng 0 96).length = 96; decide, by simp, by decide⟩ (by
    rintro a l ⟨cs, dr⟩ ⟨i1, i2, i3⟩
    simp only at i1 i2
    obtain ⟨a0, a1⟩ := i3 a (by simp)
    have hm : (0 : Int) < if (cs.length : Int) > 1 then (cs.length : Int) else 1 := by split <;> omega
    have at0 := Int.emod_nonneg a (show (if (cs.length : Int) > 1 then (cs.length : Int) else 1) ≠ 0 by omega)
    have m1 : IntMulOk (fi + 40009 + 7 * a) (48271 + 2 * a) := mulOk_left (by omega) (by omega)
    have b0 := Int.emod_nonneg ((fi + 40009 + 7 * a) * (48271 + 2 * a)) (show (2147483629 : Int) ≠ 0 by decide)
    have b1 := Int.emod_lt_of_pos ((fi + 40009 + 7 * a) * (48271 + 2 * a)) (show (0 : Int) < 2147483629 by decide)
    unfold T_law_draws_b1
    simp only [modR_ok hm, R.bind_ok, mulR_ok m1]
    generalize (fi + 40009 + 7 * a) * (48271 + 2 * a) % 2147483629 = mx at *
    generalize a % (if (cs.length : Int) > 1 then (cs.length : Int) else 1) = at_ at *
    have m2 : IntMulOk (mx / 16 + 613 * a) (69621 + 6 * a) := mulOk_left (by omega) (by omega)
    have c0 := Int.emod_nonneg ((mx / 16 + 613 * a) * (69621 + 6 * a)) (show (2147483587 : Int) ≠ 0 by decide)
    have c1 := Int.emod_lt_of_pos ((mx / 16 + 613 * a) * (69621 + 6 * a)) (show (0 : Int) < 2147483587 by decide)
    simp only [mulR_ok m2, R.bind_ok]
    generalize (mx / 16 + 613 * a) * (69621 + 6 * a) % 2147483587 = dw at *
    have fin : ∀ (cs' : List Int) (d : Int), 0 ≤ d → d < 10 ^ 18 → ∃ s' : List Int × List Int, ((appR dr d).bind fun v => R.ok (cs', v)) = .ok s' ∧ s'.2.length + l.length = 96 ∧ (∀ d ∈ s'.2, 0 ≤ d ∧ d < 10 ^ 18) ∧ ∀ a ∈ l, 0 ≤ a ∧ a < 96 := fun cs' d d0 d1 => by
      refine ⟨(cs', dr ++ [d]), by rw [appR_ok (by rw [sizeLine_eq]; simp at i1; omega)]; rfl, by simp at i1 ⊢; omega, ?_, fun a ha => i3 a (by simp [ha])⟩
      intro x hx
      rcases List.mem_append.mp hx with h | h
      · exact i2 x h
      · rw [List.mem_singleton] at h; subst h; exact ⟨d0, d1⟩
    by_cases hlt : at_ < (cs.length : Int)
    · obtain ⟨x, _, _, hx⟩ := atR_ex at0 hlt
      by_cases hx0 : x = 0
      · simp only [hlt, decide_true, if_true, hx, R.bind_ok, hx0, Bool.not_true, Bool.false_eq_true, if_false]
        exact fin cs dw c0 (by omega)
      · have hp : CDivP x 1000000000000000000 := divP_of (by decide) (by decide +kernel)
        simp only [hlt, decide_true, if_true, hx, R.bind_ok, hx0, decide_false, Bool.not_false, dmR_ok hp, setR_ok at0 hlt]
        exact fin _ _ (Int.emod_nonneg _ (by decide)) (Int.emod_lt_of_pos _ (by decide))
    · simp only [hlt, decide_false, Bool.false_eq_true, if_false, R.bind_ok]
      exact fin cs dw c0 (by omega))
  refine ⟨s.2, ?_, by simpa using h2, h3⟩
  simp only [R.bind_ok, rngR1_ok (show -1000000000 ≤ (96 : Int) by decide) (by decide), h1]
end OD
set_option Elab.async false
set_option linter.all false
set_option maxRecDepth 100000
set_option maxHeartbeats 4000000
set_option synthInstance.maxSize 1000
set_option synthInstance.maxHeartbeats 400000
namespace OD
open PySem PySem.Spec PyProof.Rows L2 L2.VL
def G_is_word : List D → R Fl := (sSeq (sIf (tOrB (tVal (eOp gLt (eB gLen (aCons (eVar 0) aNil)) (eC (.int 1)))) (tVal (eOp gGt (eB gLen (aCons (eVar 0) aNil)) (eC (.int 8))))) (sRet (eC (.bl false))) sNil) (sSeq (sFor (iStrg (eVar 0)) (tgName 1) (sIf (tVal (eOp gNotInS (eVar 1) (eC (.str "abcdefghijklmnopqrstuvwxyz")))) (sRet (eC (.bl false))) sNil)) (sRet (eC (.bl true)))))
def M_is_word : List D → R D := runF 2 (G_is_word)
def T_is_word_b1  (s1 : Unit) (a2 : Str) : R (TF Unit Bool) := ((ninSR a2 ("abcdefghijklmnopqrstuvwxyz" : Str)).bind fun b => if b then ((R.ok false).bind fun y => R.ok (TF.rt y)) else ((((R.ok ()).bind fun (_ : Unit) => R.ok ()).bind fun (_ : Unit) => R.ok ()).bind fun y => R.ok (TF.nx y)))
def T_is_word (v_text : Str) : R Bool := ((((lenS v_text).bind fun x => (R.ok (1 : Int)).bind fun y => R.ok (decide (x < y))).bind fun a => if a then R.ok true else ((lenS v_text).bind fun x => (R.ok (8 : Int)).bind fun y => R.ok (decide (y < x)))).bind fun b => if b then (R.ok false) else ((R.ok ()).bind fun (_ : Unit) => R.ok ()).bind fun _ => ((((R.ok v_text).bind fun z => R.ok (sgns z)).bind fun l => forR T_is_word_b1 l ()).bind fun t => t.thx fun _ => (R.ok true)))
theorem sim_is_word (v_text : Str) : Ref (M_is_word [D.str v_text]) ((T_is_word v_text).map D.bl) := by
  unfold M_is_word
  exact run_x (n := 2) (p := [some (D.str v_text), none]) (by unfold G_is_word T_is_word; exact (sx_ifT (by exact (sc_orE (sc_valE (se_op (k := gLt) (ea := D.int) (eb := D.int) (ec := D.bl) (h := fun (x : Int) (y : Int) => R.ok (decide (x < y))) (fun x y => Ref.of rfl) (se_b (k := gLen) (ea := D.int) (sa_cons (d := (D.str v_text)) (sp_var (i := 0)) sa_nil) (k_lenS v_text)) (SP.se (ea := D.int) (x := (1 : Int)) sp_c))) (sc_valE (se_op (k := gGt) (ea := D.int) (eb := D.int) (ec := D.bl) (h := fun (x : Int) (y : Int) => R.ok (decide (y < x))) (fun x y => Ref.of rfl) (se_b (k := gLen) (ea := D.int) (sa_cons (d := (D.str v_text)) (sp_var (i := 0)) sa_nil) (k_lenS v_text)) (SP.se (ea := D.int) (x := (8 : Int)) sp_c))))) (sx_ret (by exact (SP.se (ea := D.bl) (x := false) sp_c))) (sn_yield (P := fun (_ : Unit) => [some (D.str v_text), none]) sn_nil (fun (_ : Unit) => ()) (fun (_ : Unit) => by exact And.intro rfl (trivial))) (fun _ => (sx_seqB (sb_for (P := fun (s1 : Unit) => [some (D.str v_text), none]) (Pt := fun (s1 : Unit) (a2 : Str) => [some (D.str v_text), some (D.str a2)]) (st := T_is_word_b1) () (si_str (SP.se (ea := D.str) (x := v_text) (sp_var (i := 0)))) (by exact And.intro rfl (trivial)) (fun _ => tg_name) (fun s1 a2 => by unfold T_is_word_b1; exact (sb_if (by exact (sc_valE (se_opP (k := gNotInS) (ec := D.bl) (k_ninS a2 ("abcdefghijklmnopqrstuvwxyz" : Str)) (sp_var (i := 1)) sp_c))) (sb_x (P := fun (s1 : Unit) => [some (D.str v_text), none]) (sx_ret (by exact (SP.se (ea := D.bl) (x := false) sp_c)))) (sb_n (sn_yield (P := fun (s1 : Unit) => [some (D.str v_text), none]) (sn_yield (P := fun (_ : Unit) => [some (D.str v_text), some (D.str a2)]) sn_nil (fun (_ : Unit) => ()) (fun (_ : Unit) => by exact And.intro rfl (And.intro rfl (trivial)))) (fun (_ : Unit) => ()) (fun (_ : Unit) => by exact And.intro rfl (trivial))))))) (fun _ => (sx_ret (by exact (SP.se (ea := D.bl) (x := true) sp_c)))))))) (And.intro rfl (trivial))
def G_names_of : List D → R Fl := (sRet (eAsT .fr (eComp (iTupl (eVar 0)) (tgName 1) tTrue (eIx (eVar 1) (eC (.int 0))))))
def M_names_of : List D → R D := runF 2 (G_names_of)
def T_names_of (v_net : (List (Str × (List Str) × (List Str) × Int × (List (List Int))))) : R (List Str) := ((R.ok v_net).bind fun l => (cmpR (fun (a1 : (Str × (List Str) × (List Str) × Int × (List (List Int)))) => (R.ok true)) (fun (a1 : (Str × (List Str) × (List Str) × Int × (List (List Int)))) => (R.ok a1.1)) l).bind fitN)
theorem sim_names_of (v_net : (List (Str × (List Str) × (List Str) × Int × (List (List Int))))) : Ref (M_names_of [(eT (e5 D.str (eT D.str) (eT D.str) D.int (eT (eT D.int)))) v_net]) ((T_names_of v_net).map (eT D.str)) := by
  unfold M_names_of
  exact run_x (n := 2) (p := [some ((eT (e5 D.str (eT D.str) (eT D.str) D.int (eT (eT D.int)))) v_net), none]) (by unfold G_names_of T_names_of; exact (sx_ret (by exact (se_asT (ea := D.str) (se_comp (Pt := fun (a1 : (Str × (List Str) × (List Str) × Int × (List (List Int)))) => [some ((eT (e5 D.str (eT D.str) (eT D.str) D.int (eT (eT D.int)))) v_net), some ((e5 D.str (eT D.str) (eT D.str) D.int (eT (eT D.int))) a1)]) (si_tup (ea := (e5 D.str (eT D.str) (eT D.str) D.int (eT (eT D.int)))) (SP.se (ea := (eT (e5 D.str (eT D.str) (eT D.str) D.int (eT (eT D.int))))) (x := v_net) (sp_var (i := 0)))) (TGs.le (p' := [some ((eT (e5 D.str (eT D.str) (eT D.str) D.int (eT (eT D.int)))) v_net), none]) ((show PLe [some ((eT (e5 D.str (eT D.str) (eT D.str) D.int (eT (eT D.int)))) v_net), none] _ by exact And.intro rfl (trivial))) tg_name) (fun a1 => (by exact (SCp.sc sc_true))) (fun a1 => (by exact (SP.se (ea := D.str) (x := a1.1) (sp_ix (d := D.str a1.1) rfl (sp_var (i := 1)) sp_c))))) (fun _ => rfl))))) (And.intro rfl (trivial))
def G_entry_of : List D → R Fl := (sSeq (sFor (iTupl (eVar 0)) (tgName 2) (sIf (tVal (eOp gEq (eIx (eVar 2) (eC (.int 0))) (eVar 1))) (sRet (eVar 2)) sNil)) (sRaise "NoName"))
def M_entry_of : List D → R D := runF 3 (G_entry_of)
def T_entry_of_b1 (v_name : Str) (s1 : Unit) (a2 : (Str × (List Str) × (List Str) × Int × (List (List Int)))) : R (TF Unit (Str × (List Str) × (List Str) × Int × (List (List Int)))) := ((R.ok (decide (a2.1 = v_name))).bind fun b => if b then ((R.ok a2).bind fun y => R.ok (TF.rt y)) else ((((R.ok ()).bind fun (_ : Unit) => R.ok ()).bind fun (_ : Unit) => R.ok ()).bind fun y => R.ok (TF.nx y)))
def T_entry_of (v_net : (List (Str × (List Str) × (List Str) × Int × (List (List Int))))) (v_name : Str) : R (Str × (List Str) × (List Str) × Int × (List (List Int))) := (((R.ok v_net).bind fun l => forR (T_entry_of_b1 v_name) l ()).bind fun t => t.thx fun _ => (R.ex "NoName"))
theorem sim_entry_of (v_net : (List (Str × (List Str) × (List Str) × Int × (List (List Int))))) (v_name : Str) : Ref (M_entry_of [(eT (e5 D.str (eT D.str) (eT D.str) D.int (eT (eT D.int)))) v_net, D.str v_name]) ((T_entry_of v_net v_name).map (e5 D.str (eT D.str) (eT D.str) D.int (eT (eT D.int)))) := by
  unfold M_entry_of
  exact run_x (n := 3) (p := [some ((eT (e5 D.str (eT D.str) (eT D.str) D.int (eT (eT D.int)))) v_net), some (D.str v_name), none]) (by unfold G_entry_of T_entry_of; exact (sx_seqB (sb_for (P := fun (s1 : Unit) => [some ((eT (e5 D.str (eT D.str) (eT D.str) D.int (eT (eT D.int)))) v_net), some (D.str v_name), none]) (Pt := fun (s1 : Unit) (a2 : (Str × (List Str) × (List Str) × Int × (List (List Int)))) => [some ((eT (e5 D.str (eT D.str) (eT D.str) D.int (eT (eT D.int)))) v_net), some (D.str v_name), some ((e5 D.str (eT D.str) (eT D.str) D.int (eT (eT D.int))) a2)]) (st := (T_entry_of_b1 v_name)) () (si_tup (ea := (e5 D.str (eT D.str) (eT D.str) D.int (eT (eT D.int)))) (SP.se (ea := (eT (e5 D.str (eT D.str) (eT D.str) D.int (eT (eT D.int))))) (x := v_net) (sp_var (i := 0)))) (by exact And.intro rfl (And.intro rfl (trivial))) (fun _ => tg_name) (fun s1 a2 => by unfold T_entry_of_b1; exact (sb_if (by exact (SCp.sc (sc_val (sp_op (k := gEq) (d := D.bl (decide (a2.1 = v_name))) rfl (sp_ix (d := D.str a2.1) rfl (sp_var (i := 2)) sp_c) (sp_var (i := 1)))))) (sb_x (P := fun (s1 : Unit) => [some ((eT (e5 D.str (eT D.str) (eT D.str) D.int (eT (eT D.int)))) v_net), some (D.str v_name), none]) (sx_ret (by exact (SP.se (ea := (e5 D.str (eT D.str) (eT D.str) D.int (eT (eT D.int)))) (x := a2) (sp_var (i := 2)))))) (sb_n (sn_yield (P := fun (s1 : Unit) => [some ((eT (e5 D.str (eT D.str) (eT D.str) D.int (eT (eT D.int)))) v_net), some (D.str v_name), none]) (sn_yield (P := fun (_ : Unit) => [some ((eT (e5 D.str (eT D.str) (eT D.str) D.int (eT (eT D.int)))) v_net), some (D.str v_name), some ((e5 D.str (eT D.str) (eT D.str) D.int (eT (eT D.int))) a2)]) sn_nil (fun (_ : Unit) => ()) (fun (_ : Unit) => by exact And.intro rfl (And.intro rfl (And.intro rfl (trivial))))) (fun (_ : Unit) => ()) (fun (_ : Unit) => by exact And.intro rfl (And.intro rfl (trivial)))))))) (fun _ => sx_raise))) (And.intro rfl (And.intro rfl (trivial)))
def G_values_of : List D → R Fl := (sRet (eIx (eCall M_entry_of (aCons (eVar 0) (aCons (eVar 1) aNil))) (eC (.int 1))))
def M_values_of : List D → R D := runF 2 (G_values_of)
def T_values_of (v_net : (List (Str × (List Str) × (List Str) × Int × (List (List Int))))) (v_name : Str) : R (List Str) := ((T_entry_of v_net v_name).bind fun x => R.ok x.2.1)
theorem sim_values_of (v_net : (List (Str × (List Str) × (List Str) × Int × (List (List Int))))) (v_name : Str) : Ref (M_values_of [(eT (e5 D.str (eT D.str) (eT D.str) D.int (eT (eT D.int)))) v_net, D.str v_name]) ((T_values_of v_net v_name).map (eT D.str)) := by
  unfold M_values_of
  exact run_x (n := 2) (p := [some ((eT (e5 D.str (eT D.str) (eT D.str) D.int (eT (eT D.int)))) v_net), some (D.str v_name)]) (by unfold G_values_of T_values_of; exact (sx_ret (by exact (se_ixC (ea := (e5 D.str (eT D.str) (eT D.str) D.int (eT (eT D.int)))) (ec := (eT D.str)) (k := 1) (h := fun x => R.ok x.2.1) (se_call (sa_cons (d := ((eT (e5 D.str (eT D.str) (eT D.str) D.int (eT (eT D.int)))) v_net)) (sp_var (i := 0)) (sa_cons (d := (D.str v_name)) (sp_var (i := 1)) sa_nil)) (sim_entry_of v_net v_name)) sp_c (fun _ => .inr rfl))))) (And.intro rfl (And.intro rfl (trivial)))
def G_once_each : List D → R Fl := (sForP (iEnumL (eVar 0)) 1 2 (sIf (tVal (eOp gIn (eVar 2) (eSlL .ar (eVar 0) pNo (pAt (eVar 1))))) (sRaise "Twice") sNil))
def M_once_each : List D → R D := runF 3 (G_once_each)
def T_once_each_b1 (v_some : (List Str)) (s1 : Unit) (a2 : (Int × Str)) : R Unit := (((R.ok (decide (a2.2 ∈ (cutL v_some none (some a2.1))))).bind fun b => if b then (R.ex "Twice") else ((R.ok ()).bind fun (_ : Unit) => R.ok ())).bind fun (_ : Unit) => R.ok ())
def T_once_each (v_some : (List Str)) : R Unit := ((((R.ok v_some).bind fun l => R.ok (enumN l)).bind fun l => foldR (T_once_each_b1 v_some) l ()).bind fun (_ : Unit) => R.ok ())
theorem sim_once_each (v_some : (List Str)) : Ref (M_once_each [(eL D.str) v_some]) ((T_once_each v_some).map eU) := by
  unfold M_once_each
  exact run_u (n := 3) (p := [some ((eL D.str) v_some), none, none]) (by unfold G_once_each T_once_each; exact (sn_yield (P := fun (_ : Unit) => [none, none, none]) (sn_forP (P := fun (s1 : Unit) => [some ((eL D.str) v_some), none, none]) (Pt := fun (s1 : Unit) (a2 : (Int × Str)) => [some ((eL D.str) v_some), some (D.int a2.1), some (D.str a2.2)]) (st := (T_once_each_b1 v_some)) () (si_enum (SP.se (ea := (eL D.str)) (x := v_some) (sp_var (i := 0)))) (by exact And.intro rfl (trivial)) (fun _ _ _ he => (he.set 1).set 2) (fun s1 a2 => by unfold T_once_each_b1; exact (sn_yield (P := fun (s1 : Unit) => [some ((eL D.str) v_some), none, none]) (sn_if (by exact (SCp.sc (sc_val (sp_op (k := gIn) (d := D.bl (decide (a2.2 ∈ (cutL v_some none (some a2.1))))) (g_inL flt_str _ _) (sp_var (i := 2)) (sp_slL (l := v_some) (sp_var (i := 0)) sop_no (sop_at (sp_var (i := 1))) (cn_flt flt_str .ar _)))))) (sn_raise (P := fun (_ : Unit) => [some ((eL D.str) v_some), some (D.int a2.1), some (D.str a2.2)])) (sn_yield (P := fun (_ : Unit) => [some ((eL D.str) v_some), some (D.int a2.1), some (D.str a2.2)]) sn_nil (fun (_ : Unit) => ()) (fun (_ : Unit) => by exact And.intro rfl (And.intro rfl (And.intro rfl (trivial)))))) (fun (_ : Unit) => ()) (fun (_ : Unit) => by exact And.intro rfl (trivial))))) (fun (_ : Unit) => ()) (fun (_ : Unit) => by exact trivial))) (And.intro rfl (trivial))
def G_look_at_values : List D → R Fl := (sSeq (sIf (tOrB (tVal (eOp gLt (eB gLen (aCons (eVar 0) aNil)) (eC (.int 2)))) (tVal (eOp gGt (eB gLen (aCons (eVar 0) aNil)) (eC (.int 4))))) (sRaise "WrongSize") sNil) (sSeq (sFor (iLst (eVar 0)) (tgName 1) (sIf (tNotB (tVal (eCall M_is_word (aCons (eFlat (eVar 1)) aNil)))) (sRaise "NoWord") sNil)) (sDrop (eCall M_once_each (aCons (eVar 0) aNil)))))
def M_look_at_values : List D → R D := runF 2 (G_look_at_values)
def T_look_at_values_b1  (s1 : Unit) (a2 : Str) : R Unit := ((((T_is_word a2).bind fun b => R.ok (!b)).bind fun b => if b then (R.ex "NoWord") else ((R.ok ()).bind fun (_ : Unit) => R.ok ())).bind fun (_ : Unit) => R.ok ())
def T_look_at_values (v_values : (List Str)) : R Unit := (((R.ok ((decide ((v_values.length : Int) < (2 : Int))) || (decide ((4 : Int) < (v_values.length : Int))))).bind fun b => if b then (R.ex "WrongSize") else ((R.ok ()).bind fun (_ : Unit) => R.ok ())).bind fun _ => (((R.ok v_values).bind fun l => foldR T_look_at_values_b1 l ()).bind fun _ => (((T_once_each v_values).bind fun _ => R.ok ()).bind fun (_ : Unit) => R.ok ())))
theorem sim_look_at_values (v_values : (List Str)) : Ref (M_look_at_values [(eL D.str) v_values]) ((T_look_at_values v_values).map eU) := by
  unfold M_look_at_values
  exact run_u (n := 2) (p := [some ((eL D.str) v_values), none]) (by unfold G_look_at_values T_look_at_values; exact (sn_seq (sn_if (by exact (SCp.sc (sc_or (sc_val (sp_op (k := gLt) (d := D.bl (decide ((v_values.length : Int) < (2 : Int)))) rfl (sp_b (k := gLen) (d := D.int (v_values.length : Int)) (sa_cons (d := ((eL D.str) v_values)) (sp_var (i := 0)) sa_nil) (g_lenL _)) sp_c)) (sc_val (sp_op (k := gGt) (d := D.bl (decide ((4 : Int) < (v_values.length : Int)))) rfl (sp_b (k := gLen) (d := D.int (v_values.length : Int)) (sa_cons (d := ((eL D.str) v_values)) (sp_var (i := 0)) sa_nil) (g_lenL _)) sp_c))))) (sn_raise (P := fun (_ : Unit) => [some ((eL D.str) v_values), none])) (sn_yield (P := fun (_ : Unit) => [some ((eL D.str) v_values), none]) sn_nil (fun (_ : Unit) => ()) (fun (_ : Unit) => by exact And.intro rfl (trivial)))) (fun _ => (sn_seq (sn_for (P := fun (s1 : Unit) => [some ((eL D.str) v_values), none]) (Pt := fun (s1 : Unit) (a2 : Str) => [some ((eL D.str) v_values), some (D.str a2)]) (st := T_look_at_values_b1) () (si_lst (ea := D.str) (SP.se (ea := (eL D.str)) (x := v_values) (sp_var (i := 0)))) (by exact And.intro rfl (trivial)) (fun _ => tg_name) (fun s1 a2 => by unfold T_look_at_values_b1; exact (sn_yield (P := fun (s1 : Unit) => [some ((eL D.str) v_values), none]) (sn_if (by exact (sc_notE (sc_valE (se_call (sa_cons (d := (D.str a2)) (sp_flat (sp_var (i := 1))) sa_nil) (sim_is_word a2))))) (sn_raise (P := fun (_ : Unit) => [some ((eL D.str) v_values), some (D.str a2)])) (sn_yield (P := fun (_ : Unit) => [some ((eL D.str) v_values), some (D.str a2)]) sn_nil (fun (_ : Unit) => ()) (fun (_ : Unit) => by exact And.intro rfl (And.intro rfl (trivial))))) (fun (_ : Unit) => ()) (fun (_ : Unit) => by exact And.intro rfl (trivial))))) (fun _ => (sn_yield (P := fun (_ : Unit) => [none, none]) (sn_drop (by exact (se_call (sa_cons (d := ((eL D.str) v_values)) (sp_var (i := 0)) sa_nil) (sim_once_each v_values)))) (fun (_ : Unit) => ()) (fun (_ : Unit) => by exact trivial))))))) (And.intro rfl (trivial))
def G_look_at_elders : List D → R Fl := (sSeq (sIf (tVal (eOp gGt (eB gLen (aCons (eVar 1) aNil)) (eC (.int 3)))) (sRaise "WrongSize") sNil) (sSeq (sFor (iLst (eVar 1)) (tgName 2) (sIf (tVal (eOp gNotIn (eVar 2) (eCall M_names_of (aCons (eVar 0) aNil)))) (sRaise "NoElder") sNil)) (sDrop (eCall M_once_each (aCons (eVar 1) aNil)))))
def M_look_at_elders : List D → R D := runF 3 (G_look_at_elders)
def T_look_at_elders_b1 (v_net : (List (Str × (List Str) × (List Str) × Int × (List (List Int))))) (s1 : Unit) (a2 : Str) : R Unit := ((((R.ok a2).bind fun x => (T_names_of v_net).bind fun y => R.ok (!decide (x ∈ y))).bind fun b => if b then (R.ex "NoElder") else ((R.ok ()).bind fun (_ : Unit) => R.ok ())).bind fun (_ : Unit) => R.ok ())
def T_look_at_elders (v_net : (List (Str × (List Str) × (List Str) × Int × (List (List Int))))) (v_elders : (List Str)) : R Unit := (((R.ok (decide ((3 : Int) < (v_elders.length : Int)))).bind fun b => if b then (R.ex "WrongSize") else ((R.ok ()).bind fun (_ : Unit) => R.ok ())).bind fun _ => (((R.ok v_elders).bind fun l => foldR (T_look_at_elders_b1 v_net) l ()).bind fun _ => (((T_once_each v_elders).bind fun _ => R.ok ()).bind fun (_ : Unit) => R.ok ())))
theorem sim_look_at_elders (v_net : (List (Str × (List Str) × (List Str) × Int × (List (List Int))))) (v_elders : (List Str)) : Ref (M_look_at_elders [(eT (e5 D.str (eT D.str) (eT D.str) D.int (eT (eT D.int)))) v_net, (eL D.str) v_elders]) ((T_look_at_elders v_net v_elders).map eU) := by
  unfold M_look_at_elders
  exact run_u (n := 3) (p := [some ((eT (e5 D.str (eT D.str) (eT D.str) D.int (eT (eT D.int)))) v_net), some ((eL D.str) v_elders), none]) (by unfold G_look_at_elders T_look_at_elders; exact (sn_seq (sn_if (by exact (SCp.sc (sc_val (sp_op (k := gGt) (d := D.bl (decide ((3 : Int) < (v_elders.length : Int)))) rfl (sp_b (k := gLen) (d := D.int (v_elders.length : Int)) (sa_cons (d := ((eL D.str) v_elders)) (sp_var (i := 1)) sa_nil) (g_lenL _)) sp_c)))) (sn_raise (P := fun (_ : Unit) => [some ((eT (e5 D.str (eT D.str) (eT D.str) D.int (eT (eT D.int)))) v_net), some ((eL D.str) v_elders), none])) (sn_yield (P := fun (_ : Unit) => [some ((eT (e5 D.str (eT D.str) (eT D.str) D.int (eT (eT D.int)))) v_net), some ((eL D.str) v_elders), none]) sn_nil (fun (_ : Unit) => ()) (fun (_ : Unit) => by exact And.intro rfl (And.intro rfl (trivial))))) (fun _ => (sn_seq (sn_for (P := fun (s1 : Unit) => [some ((eT (e5 D.str (eT D.str) (eT D.str) D.int (eT (eT D.int)))) v_net), some ((eL D.str) v_elders), none]) (Pt := fun (s1 : Unit) (a2 : Str) => [some ((eT (e5 D.str (eT D.str) (eT D.str) D.int (eT (eT D.int)))) v_net), some ((eL D.str) v_elders), some (D.str a2)]) (st := (T_look_at_elders_b1 v_net)) () (si_lst (ea := D.str) (SP.se (ea := (eL D.str)) (x := v_elders) (sp_var (i := 1)))) (by exact And.intro rfl (And.intro rfl (trivial))) (fun _ => tg_name) (fun s1 a2 => by unfold T_look_at_elders_b1; exact (sn_yield (P := fun (s1 : Unit) => [some ((eT (e5 D.str (eT D.str) (eT D.str) D.int (eT (eT D.int)))) v_net), some ((eL D.str) v_elders), none]) (sn_if (by exact (sc_valE (se_op (k := gNotIn) (ea := D.str) (eb := (eT D.str)) (ec := D.bl) (h := fun (x : Str) (y : (List Str)) => R.ok (!decide (x ∈ y))) (fun x y => Ref.of (congrArg ofO (g_ninT flt_str _ _))) (SP.se (ea := D.str) (x := a2) (sp_var (i := 2))) (se_call (sa_cons (d := ((eT (e5 D.str (eT D.str) (eT D.str) D.int (eT (eT D.int)))) v_net)) (sp_var (i := 0)) sa_nil) (sim_names_of v_net))))) (sn_raise (P := fun (_ : Unit) => [some ((eT (e5 D.str (eT D.str) (eT D.str) D.int (eT (eT D.int)))) v_net), some ((eL D.str) v_elders), some (D.str a2)])) (sn_yield (P := fun (_ : Unit) => [some ((eT (e5 D.str (eT D.str) (eT D.str) D.int (eT (eT D.int)))) v_net), some ((eL D.str) v_elders), some (D.str a2)]) sn_nil (fun (_ : Unit) => ()) (fun (_ : Unit) => by exact And.intro rfl (And.intro rfl (And.intro rfl (trivial)))))) (fun (_ : Unit) => ()) (fun (_ : Unit) => by exact And.intro rfl (And.intro rfl (trivial)))))) (fun _ => (sn_yield (P := fun (_ : Unit) => [none, none, none]) (sn_drop (by exact (se_call (sa_cons (d := ((eL D.str) v_elders)) (sp_var (i := 1)) sa_nil) (sim_once_each v_elders)))) (fun (_ : Unit) => ()) (fun (_ : Unit) => by exact trivial))))))) (And.intro rfl (And.intro rfl (trivial)))
def G_many_of : List D → R Fl := (sSeq (sIf (tVal (eOp gNe (eB gLen (aCons (eVar 0) aNil)) (eVar 1))) (sRaise "WrongTable") sNil) (sSeq (sFor (iLst (eVar 0)) (tgName 3) (sIf (tOrB (tVal (eOp gNe (eB gLen (aCons (eVar 3) aNil)) (eVar 2))) (tOrB (tVal (eOp gLt (eB gMin (aCons (eVar 3) aNil)) (eC (.int 0)))) (tVal (eOp gNe (eB gSum (aCons (eVar 3) aNil)) (eB gSum (aCons (eIx (eVar 0) (eC (.int 0))) aNil)))))) (sRaise "WrongTable") sNil)) (sSeq (sAsg 4 (eB gSum (aCons (eIx (eVar 0) (eC (.int 0))) aNil))) (sSeq (sIf (tOrB (tVal (eOp gLt (eVar 4) (eC (.int 1)))) (tVal (eOp gGt (eVar 4) (eC (.int 1000000000))))) (sRaise "WrongTable") sNil) (sRet (eVar 4))))))
def M_many_of : List D → R D := runF 5 (G_many_of)
def T_many_of_b1 (v_table : (List (List Int))) (v_size : Int) (s1 : Unit) (a2 : (List Int)) : R Unit := ((((R.ok (!decide ((a2.length : Int) = v_size))).bind fun a => if a then R.ok true else (((minR a2).bind fun x => (R.ok (0 : Int)).bind fun y => R.ok (decide (x < y))).bind fun a => if a then R.ok true else ((R.ok (List.sum a2)).bind fun x => (((atR v_table (0 : Int)).bind fun x => (R.ok ()).bind fun xs => R.ok (x, xs)).bind fun t => R.ok (List.sum t.1)).bind fun y => R.ok (!decide (x = y))))).bind fun b => if b then (R.ex "WrongTable") else ((R.ok ()).bind fun (_ : Unit) => R.ok ())).bind fun (_ : Unit) => R.ok ())
def T_many_of (v_table : (List (List Int))) (v_choices : Int) (v_size : Int) : R Int := (((R.ok (!decide ((v_table.length : Int) = v_choices))).bind fun b => if b then (R.ex "WrongTable") else ((R.ok ()).bind fun (_ : Unit) => R.ok ())).bind fun _ => (((R.ok v_table).bind fun l => foldR (T_many_of_b1 v_table v_size) l ()).bind fun _ => ((((atR v_table (0 : Int)).bind fun x => (R.ok ()).bind fun xs => R.ok (x, xs)).bind fun t => R.ok (List.sum t.1)).bind fun (v_many : Int) => (((R.ok ((decide (v_many < (1 : Int))) || (decide ((1000000000 : Int) < v_many)))).bind fun b => if b then (R.ex "WrongTable") else ((R.ok ()).bind fun (_ : Unit) => R.ok ())).bind fun _ => (R.ok v_many)))))
theorem sim_many_of (v_table : (List (List Int))) (v_choices : Int) (v_size : Int) : Ref (M_many_of [(eL (eL D.int)) v_table, D.int v_choices, D.int v_size]) ((T_many_of v_table v_choices v_size).map D.int) := by
  unfold M_many_of
  exact run_x (n := 5) (p := [some ((eL (eL D.int)) v_table), some (D.int v_choices), some (D.int v_size), none, none]) (by unfold G_many_of T_many_of; exact (sx_seq (sn_if (by exact (SCp.sc (sc_val (sp_op (k := gNe) (d := D.bl (!decide ((v_table.length : Int) = v_choices))) rfl (sp_b (k := gLen) (d := D.int (v_table.length : Int)) (sa_cons (d := ((eL (eL D.int)) v_table)) (sp_var (i := 0)) sa_nil) (g_lenL _)) (sp_var (i := 1)))))) (sn_raise (P := fun (_ : Unit) => [some ((eL (eL D.int)) v_table), some (D.int v_choices), some (D.int v_size), none, none])) (sn_yield (P := fun (_ : Unit) => [some ((eL (eL D.int)) v_table), some (D.int v_choices), some (D.int v_size), none, none]) sn_nil (fun (_ : Unit) => ()) (fun (_ : Unit) => by exact And.intro rfl (And.intro rfl (And.intro rfl (trivial)))))) (fun _ => (sx_seq (sn_for (P := fun (s1 : Unit) => [some ((eL (eL D.int)) v_table), some (D.int v_choices), some (D.int v_size), none, none]) (Pt := fun (s1 : Unit) (a2 : (List Int)) => [some ((eL (eL D.int)) v_table), some (D.int v_choices), some (D.int v_size), some ((eL D.int) a2), none]) (st := (T_many_of_b1 v_table v_size)) () (si_lst (ea := (eL D.int)) (SP.se (ea := (eL (eL D.int))) (x := v_table) (sp_var (i := 0)))) (by exact And.intro rfl (And.intro rfl (And.intro rfl (trivial)))) (fun _ => tg_name) (fun s1 a2 => by unfold T_many_of_b1; exact (sn_yield (P := fun (s1 : Unit) => [some ((eL (eL D.int)) v_table), some (D.int v_choices), some (D.int v_size), none, none]) (sn_if (by exact (sc_orE (SCp.sc (sc_val (sp_op (k := gNe) (d := D.bl (!decide ((a2.length : Int) = v_size))) rfl (sp_b (k := gLen) (d := D.int (a2.length : Int)) (sa_cons (d := ((eL D.int) a2)) (sp_var (i := 3)) sa_nil) (g_lenL _)) (sp_var (i := 2))))) (sc_orE (sc_valE (se_op (k := gLt) (ea := D.int) (eb := D.int) (ec := D.bl) (h := fun (x : Int) (y : Int) => R.ok (decide (x < y))) (fun x y => Ref.of rfl) (se_b (k := gMin) (ea := D.int) (sa_cons (d := ((eL D.int) a2)) (sp_var (i := 3)) sa_nil) (k_minL a2)) (SP.se (ea := D.int) (x := (0 : Int)) sp_c))) (sc_valE (se_op (k := gNe) (ea := D.int) (eb := D.int) (ec := D.bl) (h := fun (x : Int) (y : Int) => R.ok (!decide (x = y))) (fun x y => Ref.of rfl) (SP.se (ea := D.int) (x := (List.sum a2)) (sp_b (k := gSum) (d := D.int (List.sum a2)) (sa_cons (d := ((eL D.int) a2)) (sp_var (i := 3)) sa_nil) (g_sumL _))) (se_bE (k := gSum) (ea := D.int) (T := fun (t : ((List Int) × Unit)) => R.ok (List.sum t.1)) (sa_consE (se_ixP (ec := (eL D.int)) (k_atL v_table (0 : Int)) (sp_var (i := 0)) sp_c) sa_nilE) (fun t => Ref.of (congrArg ofO (g_sumL _))))))))) (sn_raise (P := fun (_ : Unit) => [some ((eL (eL D.int)) v_table), some (D.int v_choices), some (D.int v_size), some ((eL D.int) a2), none])) (sn_yield (P := fun (_ : Unit) => [some ((eL (eL D.int)) v_table), some (D.int v_choices), some (D.int v_size), some ((eL D.int) a2), none]) sn_nil (fun (_ : Unit) => ()) (fun (_ : Unit) => by exact And.intro rfl (And.intro rfl (And.intro rfl (And.intro rfl (trivial))))))) (fun (_ : Unit) => ()) (fun (_ : Unit) => by exact And.intro rfl (And.intro rfl (And.intro rfl (trivial))))))) (fun _ => (sx_seq (sn_asg (i := 4) (ea := D.int) (P := fun (v_many : Int) => [some ((eL (eL D.int)) v_table), some (D.int v_choices), some (D.int v_size), none, some (D.int v_many)]) (by exact (se_bE (k := gSum) (ea := D.int) (T := fun (t : ((List Int) × Unit)) => R.ok (List.sum t.1)) (sa_consE (se_ixP (ec := (eL D.int)) (k_atL v_table (0 : Int)) (sp_var (i := 0)) sp_c) sa_nilE) (fun t => Ref.of (congrArg ofO (g_sumL _)))))) (fun (v_many : Int) => (sx_seq (sn_if (by exact (SCp.sc (sc_or (sc_val (sp_op (k := gLt) (d := D.bl (decide (v_many < (1 : Int)))) rfl (sp_var (i := 4)) sp_c)) (sc_val (sp_op (k := gGt) (d := D.bl (decide ((1000000000 : Int) < v_many))) rfl (sp_var (i := 4)) sp_c))))) (sn_raise (P := fun (_ : Unit) => [some ((eL (eL D.int)) v_table), some (D.int v_choices), some (D.int v_size), none, some (D.int v_many)])) (sn_yield (P := fun (_ : Unit) => [some ((eL (eL D.int)) v_table), some (D.int v_choices), some (D.int v_size), none, some (D.int v_many)]) sn_nil (fun (_ : Unit) => ()) (fun (_ : Unit) => by exact And.intro rfl (And.intro rfl (And.intro rfl (And.intro rfl (trivial))))))) (fun _ => (sx_ret (by exact (SP.se (ea := D.int) (x := v_many) (sp_var (i := 4)))))))))))))) (And.intro rfl (And.intro rfl (And.intro rfl (trivial))))
def G_made : List D → R Fl := (sSeq (sIf (tOrB (tVal (eOp gLt (eB gLen (aCons (eVar 0) aNil)) (eC (.int 1)))) (tVal (eOp gGt (eB gLen (aCons (eVar 0) aNil)) (eC (.int 10))))) (sRaise "WrongSize") sNil) (sSeq (sAsg 1 (eTup aNil)) (sSeq (sAsg 2 (eC (.int 1))) (sSeq (sFor (iLst (eVar 0)) (tgTup [3, 4, 5, 6]) (sSeq (sIf (tNotB (tVal (eCall M_is_word (aCons (eFlat (eVar 3)) aNil)))) (sRaise "NoWord") sNil) (sSeq (sIf (tVal (eOp gIn (eVar 3) (eCall M_names_of (aCons (eVar 1) aNil)))) (sRaise "Twice") sNil) (sSeq (sDrop (eCall M_look_at_values (aCons (eVar 4) aNil))) (sSeq (sDrop (eCall M_look_at_elders (aCons (eVar 1) (aCons (eVar 5) aNil)))) (sSeq (sAug 2 gMul (eB gLen (aCons (eVar 4) aNil))) (sSeq (sIf (tVal (eOp gGt (eVar 2) (eC (.int 4096)))) (sRaise "WrongSize") sNil) (sSeq (sAsg 7 (eC (.int 1))) (sSeq (sFor (iLst (eVar 5)) (tgName 8) (sAug 7 gMul (eB gLen (aCons (eCall M_values_of (aCons (eVar 1) (aCons (eFlat (eVar 8)) aNil))) aNil)))) (sSeq (sAsg 9 (eCall M_many_of (aCons (eVar 6) (aCons (eVar 7) (aCons (eB gLen (aCons (eVar 4) aNil)) aNil))))) (sAsg 1 (eCatT (eVar 1) (eTup (aCons (eTup (aCons (eFlat (eVar 3)) (aCons (eAsT .ar (eVar 4)) (aCons (eAsT .ar (eVar 5)) (aCons (eVar 9) (aCons (eAsT .fr (eComp (iLst (eVar 6)) (tgName 10) tTrue (eAsT .ar (eVar 10)))) aNil)))))) aNil)))))))))))))) (sRet (eVar 1))))))
def M_made : List D → R D := runF 11 (G_made)
def T_made_b1 (s1 : ((List (Str × (List Str) × (List Str) × Int × (List (List Int)))) × Int)) (s3 : Int) (a4 : Str) : R Int := (((((T_values_of s1.1 a4).bind fun x => (R.ok ()).bind fun xs => R.ok (x, xs)).bind fun t => R.ok (t.1.length : Int)).bind fun x => mulR s3 x).bind fun (v_choices : Int) => R.ok v_choices)
def T_made_b2  (s1 : ((List (Str × (List Str) × (List Str) × Int × (List (List Int)))) × Int)) (a2 : (Str × (List Str) × (List Str) × (List (List Int)))) : R ((List (Str × (List Str) × (List Str) × Int × (List (List Int)))) × Int) := ((((T_is_word a2.1).bind fun b => R.ok (!b)).bind fun b => if b then (R.ex "NoWord") else ((R.ok ()).bind fun (_ : Unit) => R.ok ())).bind fun _ => ((((R.ok a2.1).bind fun x => (T_names_of s1.1).bind fun y => R.ok (decide (x ∈ y))).bind fun b => if b then (R.ex "Twice") else ((R.ok ()).bind fun (_ : Unit) => R.ok ())).bind fun _ => (((T_look_at_values a2.2.1).bind fun _ => R.ok ()).bind fun _ => (((T_look_at_elders s1.1 a2.2.2.1).bind fun _ => R.ok ()).bind fun _ => (((R.ok (a2.2.1.length : Int)).bind fun x => mulR s1.2 x).bind fun (v_ways : Int) => (((R.ok (decide ((4096 : Int) < v_ways))).bind fun b => if b then (R.ex "WrongSize") else ((R.ok ()).bind fun (_ : Unit) => R.ok ())).bind fun _ => ((R.ok (1 : Int)).bind fun (v_choices : Int) => (((R.ok a2.2.2.1).bind fun l => foldR (T_made_b1 s1) l v_choices).bind fun (v_choices : Int) => ((T_many_of a2.2.2.2 v_choices (a2.2.1.length : Int)).bind fun (v_many : Int) => (((R.ok s1.1).bind fun x => (((((R.ok a2.1).bind fun x => ((R.ok a2.2.1).bind fun x => ((R.ok a2.2.2.1).bind fun x => ((R.ok v_many).bind fun x => (((R.ok a2.2.2.2).bind fun l => (cmpR (fun (a5 : (List Int)) => (R.ok true)) (fun (a5 : (List Int)) => (R.ok a5)) l).bind fitN).bind fun x => (R.ok ()).bind fun xs => R.ok (x, xs)).bind fun xs => R.ok (x, xs)).bind fun xs => R.ok (x, xs)).bind fun xs => R.ok (x, xs)).bind fun xs => R.ok (x, xs)).bind fun t => R.ok (t.1, t.2.1, t.2.2.1, t.2.2.2.1, t.2.2.2.2.1)).bind fun x => (R.ok ()).bind fun xs => R.ok (x, xs)).bind fun t => R.ok [t.1]).bind fun y => catR x y).bind fun (v_net : (List (Str × (List Str) × (List Str) × Int × (List (List Int))))) => R.ok (v_net, v_ways)))))))))))
def T_made (v_rows : (List (Str × (List Str) × (List Str) × (List (List Int))))) : R (List (Str × (List Str) × (List Str) × Int × (List (List Int)))) := (((R.ok ((decide ((v_rows.length : Int) < (1 : Int))) || (decide ((10 : Int) < (v_rows.length : Int))))).bind fun b => if b then (R.ex "WrongSize") else ((R.ok ()).bind fun (_ : Unit) => R.ok ())).bind fun _ => ((R.ok ([] : (List (Str × (List Str) × (List Str) × Int × (List (List Int)))))).bind fun (v_net : (List (Str × (List Str) × (List Str) × Int × (List (List Int))))) => ((R.ok (1 : Int)).bind fun (v_ways : Int) => (((R.ok v_rows).bind fun l => foldR T_made_b2 l (v_net, v_ways)).bind fun (y6 : ((List (Str × (List Str) × (List Str) × Int × (List (List Int)))) × Int)) => (R.ok y6.1)))))
theorem sim_made (v_rows : (List (Str × (List Str) × (List Str) × (List (List Int))))) : Ref (M_made [(eL (e4 D.str (eL D.str) (eL D.str) (eL (eL D.int)))) v_rows]) ((T_made v_rows).map (eT (e5 D.str (eT D.str) (eT D.str) D.int (eT (eT D.int))))) := by
  unfold M_made
  exact run_x (n := 11) (p := [some ((eL (e4 D.str (eL D.str) (eL D.str) (eL (eL D.int)))) v_rows), none, none, none, none, none, none, none, none, none, none]) (by unfold G_made T_made; exact (sx_seq (sn_if (by exact (SCp.sc (sc_or (sc_val (sp_op (k := gLt) (d := D.bl (decide ((v_rows.length : Int) < (1 : Int)))) rfl (sp_b (k := gLen) (d := D.int (v_rows.length : Int)) (sa_cons (d := ((eL (e4 D.str (eL D.str) (eL D.str) (eL (eL D.int)))) v_rows)) (sp_var (i := 0)) sa_nil) (g_lenL _)) sp_c)) (sc_val (sp_op (k := gGt) (d := D.bl (decide ((10 : Int) < (v_rows.length : Int)))) rfl (sp_b (k := gLen) (d := D.int (v_rows.length : Int)) (sa_cons (d := ((eL (e4 D.str (eL D.str) (eL D.str) (eL (eL D.int)))) v_rows)) (sp_var (i := 0)) sa_nil) (g_lenL _)) sp_c))))) (sn_raise (P := fun (_ : Unit) => [some ((eL (e4 D.str (eL D.str) (eL D.str) (eL (eL D.int)))) v_rows), none, none, none, none, none, none, none, none, none, none])) (sn_yield (P := fun (_ : Unit) => [some ((eL (e4 D.str (eL D.str) (eL D.str) (eL (eL D.int)))) v_rows), none, none, none, none, none, none, none, none, none, none]) sn_nil (fun (_ : Unit) => ()) (fun (_ : Unit) => by exact And.intro rfl (trivial)))) (fun _ => (sx_seq (sn_asg (i := 1) (ea := (eT (e5 D.str (eT D.str) (eT D.str) D.int (eT (eT D.int))))) (P := fun (v_net : (List (Str × (List Str) × (List Str) × Int × (List (List Int))))) => [some ((eL (e4 D.str (eL D.str) (eL D.str) (eL (eL D.int)))) v_rows), some ((eT (e5 D.str (eT D.str) (eT D.str) D.int (eT (eT D.int)))) v_net), none, none, none, none, none, none, none, none, none]) (by exact (SP.se (ea := (eT (e5 D.str (eT D.str) (eT D.str) D.int (eT (eT D.int))))) (x := ([] : (List (Str × (List Str) × (List Str) × Int × (List (List Int)))))) (sp_tup sa_nil)))) (fun (v_net : (List (Str × (List Str) × (List Str) × Int × (List (List Int))))) => (sx_seq (sn_asg (i := 2) (ea := D.int) (P := fun (v_ways : Int) => [some ((eL (e4 D.str (eL D.str) (eL D.str) (eL (eL D.int)))) v_rows), some ((eT (e5 D.str (eT D.str) (eT D.str) D.int (eT (eT D.int)))) v_net), some (D.int v_ways), none, none, none, none, none, none, none, none]) (by exact (SP.se (ea := D.int) (x := (1 : Int)) sp_c))) (fun (v_ways : Int) => (sx_seq (sn_for (P := fun (s1 : ((List (Str × (List Str) × (List Str) × Int × (List (List Int)))) × Int)) => [some ((eL (e4 D.str (eL D.str) (eL D.str) (eL (eL D.int)))) v_rows), some ((eT (e5 D.str (eT D.str) (eT D.str) D.int (eT (eT D.int)))) s1.1), some (D.int s1.2), none, none, none, none, none, none, none, none]) (Pt := fun (s1 : ((List (Str × (List Str) × (List Str) × Int × (List (List Int)))) × Int)) (a2 : (Str × (List Str) × (List Str) × (List (List Int)))) => [some ((eL (e4 D.str (eL D.str) (eL D.str) (eL (eL D.int)))) v_rows), some ((eT (e5 D.str (eT D.str) (eT D.str) D.int (eT (eT D.int)))) s1.1), some (D.int s1.2), some (D.str a2.1), some ((eL D.str) a2.2.1), some ((eL D.str) a2.2.2.1), some ((eL (eL D.int)) a2.2.2.2), none, none, none, none]) (st := T_made_b2) (v_net, v_ways) (si_lst (ea := (e4 D.str (eL D.str) (eL D.str) (eL (eL D.int)))) (SP.se (ea := (eL (e4 D.str (eL D.str) (eL D.str) (eL (eL D.int))))) (x := v_rows) (sp_var (i := 0)))) (by exact And.intro rfl (And.intro rfl (And.intro rfl (trivial)))) (fun _ => (fun _ _ he => ⟨_, rfl, ((((he.set 3).set 4).set 5).set 6)⟩)) (fun s1 a2 => by unfold T_made_b2; exact (sn_seq (sn_if (by exact (sc_notE (sc_valE (se_call (sa_cons (d := (D.str a2.1)) (sp_flat (sp_var (i := 3))) sa_nil) (sim_is_word a2.1))))) (sn_raise (P := fun (_ : Unit) => [some ((eL (e4 D.str (eL D.str) (eL D.str) (eL (eL D.int)))) v_rows), some ((eT (e5 D.str (eT D.str) (eT D.str) D.int (eT (eT D.int)))) s1.1), some (D.int s1.2), some (D.str a2.1), some ((eL D.str) a2.2.1), some ((eL D.str) a2.2.2.1), some ((eL (eL D.int)) a2.2.2.2), none, none, none, none])) (sn_yield (P := fun (_ : Unit) => [some ((eL (e4 D.str (eL D.str) (eL D.str) (eL (eL D.int)))) v_rows), some ((eT (e5 D.str (eT D.str) (eT D.str) D.int (eT (eT D.int)))) s1.1), some (D.int s1.2), some (D.str a2.1), some ((eL D.str) a2.2.1), some ((eL D.str) a2.2.2.1), some ((eL (eL D.int)) a2.2.2.2), none, none, none, none]) sn_nil (fun (_ : Unit) => ()) (fun (_ : Unit) => by exact And.intro rfl (And.intro rfl (And.intro rfl (And.intro rfl (And.intro rfl (And.intro rfl (And.intro rfl (trivial)))))))))) (fun _ => (sn_seq (sn_if (by exact (sc_valE (se_op (k := gIn) (ea := D.str) (eb := (eT D.str)) (ec := D.bl) (h := fun (x : Str) (y : (List Str)) => R.ok (decide (x ∈ y))) (fun x y => Ref.of (congrArg ofO (g_inT flt_str _ _))) (SP.se (ea := D.str) (x := a2.1) (sp_var (i := 3))) (se_call (sa_cons (d := ((eT (e5 D.str (eT D.str) (eT D.str) D.int (eT (eT D.int)))) s1.1)) (sp_var (i := 1)) sa_nil) (sim_names_of s1.1))))) (sn_raise (P := fun (_ : Unit) => [some ((eL (e4 D.str (eL D.str) (eL D.str) (eL (eL D.int)))) v_rows), some ((eT (e5 D.str (eT D.str) (eT D.str) D.int (eT (eT D.int)))) s1.1), some (D.int s1.2), some (D.str a2.1), some ((eL D.str) a2.2.1), some ((eL D.str) a2.2.2.1), some ((eL (eL D.int)) a2.2.2.2), none, none, none, none])) (sn_yield (P := fun (_ : Unit) => [some ((eL (e4 D.str (eL D.str) (eL D.str) (eL (eL D.int)))) v_rows), some ((eT (e5 D.str (eT D.str) (eT D.str) D.int (eT (eT D.int)))) s1.1), some (D.int s1.2), some (D.str a2.1), some ((eL D.str) a2.2.1), some ((eL D.str) a2.2.2.1), some ((eL (eL D.int)) a2.2.2.2), none, none, none, none]) sn_nil (fun (_ : Unit) => ()) (fun (_ : Unit) => by exact And.intro rfl (And.intro rfl (And.intro rfl (And.intro rfl (And.intro rfl (And.intro rfl (And.intro rfl (trivial)))))))))) (fun _ => (sn_seq (sn_drop (by exact (se_call (sa_cons (d := ((eL D.str) a2.2.1)) (sp_var (i := 4)) sa_nil) (sim_look_at_values a2.2.1)))) (fun _ => (sn_seq (sn_drop (by exact (se_call (sa_cons (d := ((eT (e5 D.str (eT D.str) (eT D.str) D.int (eT (eT D.int)))) s1.1)) (sp_var (i := 1)) (sa_cons (d := ((eL D.str) a2.2.2.1)) (sp_var (i := 5)) sa_nil)) (sim_look_at_elders s1.1 a2.2.2.1)))) (fun _ => (sn_seq (sn_aug (i := 2) (eb := D.int) (h := fun x => mulR s1.2 x) (P := fun (v_ways : Int) => [some ((eL (e4 D.str (eL D.str) (eL D.str) (eL (eL D.int)))) v_rows), some ((eT (e5 D.str (eT D.str) (eT D.str) D.int (eT (eT D.int)))) s1.1), some (D.int v_ways), some (D.str a2.1), some ((eL D.str) a2.2.1), some ((eL D.str) a2.2.2.1), some ((eL (eL D.int)) a2.2.2.2), none, none, none, none]) rfl (by exact (SP.se (ea := D.int) (x := (a2.2.1.length : Int)) (sp_b (k := gLen) (d := D.int (a2.2.1.length : Int)) (sa_cons (d := ((eL D.str) a2.2.1)) (sp_var (i := 4)) sa_nil) (g_lenL _)))) (fun x => k_mul s1.2 x)) (fun (v_ways : Int) => (sn_seq (sn_if (by exact (SCp.sc (sc_val (sp_op (k := gGt) (d := D.bl (decide ((4096 : Int) < v_ways))) rfl (sp_var (i := 2)) sp_c)))) (sn_raise (P := fun (_ : Unit) => [some ((eL (e4 D.str (eL D.str) (eL D.str) (eL (eL D.int)))) v_rows), some ((eT (e5 D.str (eT D.str) (eT D.str) D.int (eT (eT D.int)))) s1.1), some (D.int v_ways), some (D.str a2.1), some ((eL D.str) a2.2.1), some ((eL D.str) a2.2.2.1), some ((eL (eL D.int)) a2.2.2.2), none, none, none, none])) (sn_yield (P := fun (_ : Unit) => [some ((eL (e4 D.str (eL D.str) (eL D.str) (eL (eL D.int)))) v_rows), some ((eT (e5 D.str (eT D.str) (eT D.str) D.int (eT (eT D.int)))) s1.1), some (D.int v_ways), some (D.str a2.1), some ((eL D.str) a2.2.1), some ((eL D.str) a2.2.2.1), some ((eL (eL D.int)) a2.2.2.2), none, none, none, none]) sn_nil (fun (_ : Unit) => ()) (fun (_ : Unit) => by exact And.intro rfl (And.intro rfl (And.intro rfl (And.intro rfl (And.intro rfl (And.intro rfl (And.intro rfl (trivial)))))))))) (fun _ => (sn_seq (sn_asg (i := 7) (ea := D.int) (P := fun (v_choices : Int) => [some ((eL (e4 D.str (eL D.str) (eL D.str) (eL (eL D.int)))) v_rows), some ((eT (e5 D.str (eT D.str) (eT D.str) D.int (eT (eT D.int)))) s1.1), some (D.int v_ways), some (D.str a2.1), some ((eL D.str) a2.2.1), some ((eL D.str) a2.2.2.1), some ((eL (eL D.int)) a2.2.2.2), some (D.int v_choices), none, none, none]) (by exact (SP.se (ea := D.int) (x := (1 : Int)) sp_c))) (fun (v_choices : Int) => (sn_seq (sn_for (P := fun (s3 : Int) => [some ((eL (e4 D.str (eL D.str) (eL D.str) (eL (eL D.int)))) v_rows), some ((eT (e5 D.str (eT D.str) (eT D.str) D.int (eT (eT D.int)))) s1.1), some (D.int v_ways), some (D.str a2.1), some ((eL D.str) a2.2.1), some ((eL D.str) a2.2.2.1), some ((eL (eL D.int)) a2.2.2.2), some (D.int s3), none, none, none]) (Pt := fun (s3 : Int) (a4 : Str) => [some ((eL (e4 D.str (eL D.str) (eL D.str) (eL (eL D.int)))) v_rows), some ((eT (e5 D.str (eT D.str) (eT D.str) D.int (eT (eT D.int)))) s1.1), some (D.int v_ways), some (D.str a2.1), some ((eL D.str) a2.2.1), some ((eL D.str) a2.2.2.1), some ((eL (eL D.int)) a2.2.2.2), some (D.int s3), some (D.str a4), none, none]) (st := (T_made_b1 s1)) v_choices (si_lst (ea := D.str) (SP.se (ea := (eL D.str)) (x := a2.2.2.1) (sp_var (i := 5)))) (by exact And.intro rfl (And.intro rfl (And.intro rfl (And.intro rfl (And.intro rfl (And.intro rfl (And.intro rfl (And.intro rfl (trivial))))))))) (fun _ => tg_name) (fun s3 a4 => by unfold T_made_b1; exact (sn_yield (P := fun (s3 : Int) => [some ((eL (e4 D.str (eL D.str) (eL D.str) (eL (eL D.int)))) v_rows), some ((eT (e5 D.str (eT D.str) (eT D.str) D.int (eT (eT D.int)))) s1.1), some (D.int v_ways), some (D.str a2.1), some ((eL D.str) a2.2.1), some ((eL D.str) a2.2.2.1), some ((eL (eL D.int)) a2.2.2.2), some (D.int s3), none, none, none]) (sn_aug (i := 7) (eb := D.int) (h := fun x => mulR s3 x) (P := fun (v_choices : Int) => [some ((eL (e4 D.str (eL D.str) (eL D.str) (eL (eL D.int)))) v_rows), some ((eT (e5 D.str (eT D.str) (eT D.str) D.int (eT (eT D.int)))) s1.1), some (D.int v_ways), some (D.str a2.1), some ((eL D.str) a2.2.1), some ((eL D.str) a2.2.2.1), some ((eL (eL D.int)) a2.2.2.2), some (D.int v_choices), some (D.str a4), none, none]) rfl (by exact (se_bE (k := gLen) (ea := D.int) (T := fun (t : ((List Str) × Unit)) => R.ok (t.1.length : Int)) (sa_consE (se_call (sa_cons (d := ((eT (e5 D.str (eT D.str) (eT D.str) D.int (eT (eT D.int)))) s1.1)) (sp_var (i := 1)) (sa_cons (d := (D.str a4)) (sp_flat (sp_var (i := 8))) sa_nil)) (sim_values_of s1.1 a4)) sa_nilE) (fun t => Ref.of (congrArg ofO (g_lenT _))))) (fun x => k_mul s3 x)) (fun (v_choices : Int) => v_choices) (fun (v_choices : Int) => by exact And.intro rfl (And.intro rfl (And.intro rfl (And.intro rfl (And.intro rfl (And.intro rfl (And.intro rfl (And.intro rfl (trivial)))))))))))) (fun (v_choices : Int) => (sn_seq (sn_asg (i := 9) (ea := D.int) (P := fun (v_many : Int) => [some ((eL (e4 D.str (eL D.str) (eL D.str) (eL (eL D.int)))) v_rows), some ((eT (e5 D.str (eT D.str) (eT D.str) D.int (eT (eT D.int)))) s1.1), some (D.int v_ways), some (D.str a2.1), some ((eL D.str) a2.2.1), some ((eL D.str) a2.2.2.1), some ((eL (eL D.int)) a2.2.2.2), some (D.int v_choices), none, some (D.int v_many), none]) (by exact (se_call (sa_cons (d := ((eL (eL D.int)) a2.2.2.2)) (sp_var (i := 6)) (sa_cons (d := (D.int v_choices)) (sp_var (i := 7)) (sa_cons (d := (D.int (a2.2.1.length : Int))) (sp_b (k := gLen) (d := D.int (a2.2.1.length : Int)) (sa_cons (d := ((eL D.str) a2.2.1)) (sp_var (i := 4)) sa_nil) (g_lenL _)) sa_nil))) (sim_many_of a2.2.2.2 v_choices (a2.2.1.length : Int))))) (fun (v_many : Int) => (sn_yield (P := fun (s1 : ((List (Str × (List Str) × (List Str) × Int × (List (List Int)))) × Int)) => [some ((eL (e4 D.str (eL D.str) (eL D.str) (eL (eL D.int)))) v_rows), some ((eT (e5 D.str (eT D.str) (eT D.str) D.int (eT (eT D.int)))) s1.1), some (D.int s1.2), none, none, none, none, none, none, none, none]) (sn_asg (i := 1) (ea := (eT (e5 D.str (eT D.str) (eT D.str) D.int (eT (eT D.int))))) (P := fun (v_net : (List (Str × (List Str) × (List Str) × Int × (List (List Int))))) => [some ((eL (e4 D.str (eL D.str) (eL D.str) (eL (eL D.int)))) v_rows), some ((eT (e5 D.str (eT D.str) (eT D.str) D.int (eT (eT D.int)))) v_net), some (D.int v_ways), some (D.str a2.1), some ((eL D.str) a2.2.1), some ((eL D.str) a2.2.2.1), some ((eL (eL D.int)) a2.2.2.2), some (D.int v_choices), none, some (D.int v_many), none]) (by exact (se_catT (SP.se (ea := (eT (e5 D.str (eT D.str) (eT D.str) D.int (eT (eT D.int))))) (x := s1.1) (sp_var (i := 1))) (se_tup (ea := (eT (e5 D.str (eT D.str) (eT D.str) D.int (eT (eT D.int))))) (T := fun (t : ((Str × (List Str) × (List Str) × Int × (List (List Int))) × Unit)) => [t.1]) (sa_consE (se_tup (ea := (e5 D.str (eT D.str) (eT D.str) D.int (eT (eT D.int)))) (T := fun (t : (Str × (List Str) × (List Str) × Int × (List (List Int)) × Unit)) => (t.1, t.2.1, t.2.2.1, t.2.2.2.1, t.2.2.2.2.1)) (sa_consE (SP.se (ea := D.str) (x := a2.1) (sp_flat (sp_var (i := 3)))) (sa_consE (SP.se (ea := (eT D.str)) (x := a2.2.1) (sp_asT (ea := D.str) (l := a2.2.1) (sp_var (i := 4)) (cn_flt flt_str .ar _))) (sa_consE (SP.se (ea := (eT D.str)) (x := a2.2.2.1) (sp_asT (ea := D.str) (l := a2.2.2.1) (sp_var (i := 5)) (cn_flt flt_str .ar _))) (sa_consE (SP.se (ea := D.int) (x := v_many) (sp_var (i := 9))) (sa_consE (se_asT (ea := (eT D.int)) (se_comp (Pt := fun (a5 : (List Int)) => [some ((eL (e4 D.str (eL D.str) (eL D.str) (eL (eL D.int)))) v_rows), some ((eT (e5 D.str (eT D.str) (eT D.str) D.int (eT (eT D.int)))) s1.1), some (D.int v_ways), some (D.str a2.1), some ((eL D.str) a2.2.1), some ((eL D.str) a2.2.2.1), some ((eL (eL D.int)) a2.2.2.2), some (D.int v_choices), none, some (D.int v_many), some ((eL D.int) a5)]) (si_lst (ea := (eL D.int)) (SP.se (ea := (eL (eL D.int))) (x := a2.2.2.2) (sp_var (i := 6)))) (TGs.le (p' := [some ((eL (e4 D.str (eL D.str) (eL D.str) (eL (eL D.int)))) v_rows), some ((eT (e5 D.str (eT D.str) (eT D.str) D.int (eT (eT D.int)))) s1.1), some (D.int v_ways), some (D.str a2.1), some ((eL D.str) a2.2.1), some ((eL D.str) a2.2.2.1), some ((eL (eL D.int)) a2.2.2.2), some (D.int v_choices), none, some (D.int v_many), none]) ((show PLe [some ((eL (e4 D.str (eL D.str) (eL D.str) (eL (eL D.int)))) v_rows), some ((eT (e5 D.str (eT D.str) (eT D.str) D.int (eT (eT D.int)))) s1.1), some (D.int v_ways), some (D.str a2.1), some ((eL D.str) a2.2.1), some ((eL D.str) a2.2.2.1), some ((eL (eL D.int)) a2.2.2.2), some (D.int v_choices), none, some (D.int v_many), none] _ by exact And.intro rfl (And.intro rfl (And.intro rfl (And.intro rfl (And.intro rfl (And.intro rfl (And.intro rfl (And.intro rfl (And.intro rfl (trivial))))))))))) tg_name) (fun a5 => (by exact (SCp.sc sc_true))) (fun a5 => (by exact (SP.se (ea := (eT D.int)) (x := a5) (sp_asT (ea := D.int) (l := a5) (sp_var (i := 10)) (cn_flt flt_int .ar _)))))) (fun _ => rfl)) sa_nilE))))) (fun _ => rfl)) sa_nilE) (fun _ => rfl))))) (fun (v_net : (List (Str × (List Str) × (List Str) × Int × (List (List Int))))) => (v_net, v_ways)) (fun (v_net : (List (Str × (List Str) × (List Str) × Int × (List (List Int))))) => by exact And.intro rfl (And.intro rfl (And.intro rfl (trivial))))))))))))))))))))))))) (fun (y6 : ((List (Str × (List Str) × (List Str) × Int × (List (List Int)))) × Int)) => (sx_ret (by exact (SP.se (ea := (eT (e5 D.str (eT D.str) (eT D.str) D.int (eT (eT D.int))))) (x := y6.1) (sp_var (i := 1)))))))))))))) (And.intro rfl (trivial))
def G_law_copied : List D → R Fl := (sRet (eComp (iLst (eVar 0)) (tgTup [1, 2, 3, 4]) tTrue (eTup (aCons (eVar 1) (aCons (eAsL .im (eVar 2)) (aCons (eAsL .im (eVar 3)) (aCons (eComp (iLst (eVar 4)) (tgName 5) tTrue (eAsL .im (eVar 5))) aNil)))))))
def M_law_copied : List D → R D := runFr 6 (G_law_copied)
def T_law_copied (v_rows_here : (List (Str × (List Str) × (List Str) × (List (List Int))))) : R (List (Str × (List Str) × (List Str) × (List (List Int)))) := ((R.ok v_rows_here).bind fun l => (cmpR (fun (a1 : (Str × (List Str) × (List Str) × (List (List Int)))) => (R.ok true)) (fun (a1 : (Str × (List Str) × (List Str) × (List (List Int)))) => (((R.ok a1.1).bind fun x => ((R.ok a1.2.1).bind fun x => ((R.ok a1.2.2.1).bind fun x => (((R.ok a1.2.2.2).bind fun l => (cmpR (fun (a2 : (List Int)) => (R.ok true)) (fun (a2 : (List Int)) => (R.ok a2)) l).bind fitN).bind fun x => (R.ok ()).bind fun xs => R.ok (x, xs)).bind fun xs => R.ok (x, xs)).bind fun xs => R.ok (x, xs)).bind fun xs => R.ok (x, xs)).bind fun t => R.ok (t.1, t.2.1, t.2.2.1, t.2.2.2.1))) l).bind fitN)
theorem sim_law_copied (v_rows_here : (List (Str × (List Str) × (List Str) × (List (List Int))))) : Ref (M_law_copied [(eL (e4 D.str (eL D.str) (eL D.str) (eL (eL D.int)))) v_rows_here]) ((T_law_copied v_rows_here).map (eL (e4 D.str (eL D.str) (eL D.str) (eL (eL D.int))))) := by
  unfold M_law_copied
  exact run_xr (n := 6) (p := [some ((eL (e4 D.str (eL D.str) (eL D.str) (eL (eL D.int)))) v_rows_here), none, none, none, none, none]) (by unfold G_law_copied T_law_copied; exact (sx_ret (by exact (se_comp (Pt := fun (a1 : (Str × (List Str) × (List Str) × (List (List Int)))) => [some ((eL (e4 D.str (eL D.str) (eL D.str) (eL (eL D.int)))) v_rows_here), some (D.str a1.1), some ((eL D.str) a1.2.1), some ((eL D.str) a1.2.2.1), some ((eL (eL D.int)) a1.2.2.2), none]) (si_lst (ea := (e4 D.str (eL D.str) (eL D.str) (eL (eL D.int)))) (SP.se (ea := (eL (e4 D.str (eL D.str) (eL D.str) (eL (eL D.int))))) (x := v_rows_here) (sp_var (i := 0)))) (TGs.le (p' := [some ((eL (e4 D.str (eL D.str) (eL D.str) (eL (eL D.int)))) v_rows_here), none, none, none, none, none]) ((show PLe [some ((eL (e4 D.str (eL D.str) (eL D.str) (eL (eL D.int)))) v_rows_here), none, none, none, none, none] _ by exact And.intro rfl (trivial))) (fun _ _ he => ⟨_, rfl, ((((he.set 1).set 2).set 3).set 4)⟩)) (fun a1 => (by exact (SCp.sc sc_true))) (fun a1 => (by exact (se_tup (ea := (e4 D.str (eL D.str) (eL D.str) (eL (eL D.int)))) (T := fun (t : (Str × (List Str) × (List Str) × (List (List Int)) × Unit)) => (t.1, t.2.1, t.2.2.1, t.2.2.2.1)) (sa_consE (SP.se (ea := D.str) (x := a1.1) (sp_var (i := 1))) (sa_consE (SP.se (ea := (eL D.str)) (x := a1.2.1) (sp_asLL (ea := D.str) (l := a1.2.1) (sp_var (i := 2)) rfl)) (sa_consE (SP.se (ea := (eL D.str)) (x := a1.2.2.1) (sp_asLL (ea := D.str) (l := a1.2.2.1) (sp_var (i := 3)) rfl)) (sa_consE (se_comp (Pt := fun (a2 : (List Int)) => [some ((eL (e4 D.str (eL D.str) (eL D.str) (eL (eL D.int)))) v_rows_here), some (D.str a1.1), some ((eL D.str) a1.2.1), some ((eL D.str) a1.2.2.1), some ((eL (eL D.int)) a1.2.2.2), some ((eL D.int) a2)]) (si_lst (ea := (eL D.int)) (SP.se (ea := (eL (eL D.int))) (x := a1.2.2.2) (sp_var (i := 4)))) (TGs.le (p' := [some ((eL (e4 D.str (eL D.str) (eL D.str) (eL (eL D.int)))) v_rows_here), some (D.str a1.1), some ((eL D.str) a1.2.1), some ((eL D.str) a1.2.2.1), some ((eL (eL D.int)) a1.2.2.2), none]) ((show PLe [some ((eL (e4 D.str (eL D.str) (eL D.str) (eL (eL D.int)))) v_rows_here), some (D.str a1.1), some ((eL D.str) a1.2.1), some ((eL D.str) a1.2.2.1), some ((eL (eL D.int)) a1.2.2.2), none] _ by exact And.intro rfl (And.intro rfl (And.intro rfl (And.intro rfl (And.intro rfl (trivial))))))) tg_name) (fun a2 => (by exact (SCp.sc sc_true))) (fun a2 => (by exact (SP.se (ea := (eL D.int)) (x := a2) (sp_asLL (ea := D.int) (l := a2) (sp_var (i := 5)) rfl))))) sa_nilE)))) (fun _ => rfl)))))))) (And.intro rfl (trivial))
def G_law_alike (MR : List D → R D) : List D → R Fl := (sSeq (sIf (tOrB (tVal (eIsi "bool" (eVar 1))) (tOrB (tVal (eIsi "str" (eVar 1))) (tVal (eIsi "int" (eVar 1))))) (sSeq (sIf (tOrB (tVal (eOp gNe (eIsi "bool" (eVar 0)) (eIsi "bool" (eVar 1)))) (tVal (eOp gNe (eIsi "str" (eVar 0)) (eIsi "str" (eVar 1))))) (sRet (eC (.bl false))) sNil) (sRet (eAnd (eIsi2 "int" "str" (eVar 0)) (eOp gEq (eVar 0) (eVar 1))))) sNil) (sSeq (sIf (tOrB (tVal (eOp gNe (eIsi "list" (eVar 0)) (eIsi "list" (eVar 1)))) (tNotB (tVal (eIsi2 "list" "tuple" (eVar 0))))) (sRet (eC (.bl false))) sNil) (sSeq (sIf (tVal (eOp gNe (eB gLen (aCons (eVar 0) aNil)) (eB gLen (aCons (eVar 1) aNil)))) (sRet (eC (.bl false))) sNil) (sSeq (sForP (iZipA (eVar 0) (eVar 1)) 2 3 (sIf (tNotB (tVal (eCall MR (aCons (eVar 2) (aCons (eVar 3) aNil))))) (sRet (eC (.bl false))) sNil)) (sRet (eC (.bl true)))))))
def M_law_alike : Nat → List D → R D
  | 0 => fun _ => .bad
  | k + 1 => runF 4 (G_law_alike (M_law_alike k))
def T_law_alike_b1 (TR : D → D → R Bool)  (s1 : Unit) (a2 : (D × D)) : R (TF Unit Bool) := (((TR a2.1 a2.2).bind fun b => R.ok (!b)).bind fun b => if b then ((R.ok false).bind fun y => R.ok (TF.rt y)) else ((((R.ok ()).bind fun (_ : Unit) => R.ok ()).bind fun (_ : Unit) => R.ok ()).bind fun y => R.ok (TF.nx y)))
def B_law_alike (TR : D → D → R Bool) (v_found : D) (v_due_here : D) : R Bool := (((isiR "bool" (eA v_due_here)).bind fun a => if a then R.ok true else ((isiR "str" (eA v_due_here)).bind fun a => if a then R.ok true else (isiR "int" (eA v_due_here)))).bind fun b => if b then ((((isiR "bool" (eA v_found)).bind fun x => (isiR "bool" (eA v_due_here)).bind fun y => R.ok (!decide (x = y))).bind fun a => if a then R.ok true else ((isiR "str" (eA v_found)).bind fun x => (isiR "str" (eA v_due_here)).bind fun y => R.ok (!decide (x = y)))).bind fun b => if b then (R.ok false) else ((R.ok ()).bind fun (_ : Unit) => R.ok ()).bind fun _ => (((R.ok v_found).bind fun x => isi2R "int" "str" (eA x)).bind fun a => if a then (eqAR v_found v_due_here) else R.ok false)) else ((R.ok ()).bind fun (_ : Unit) => R.ok ()).bind fun _ => ((((isiR "list" (eA v_found)).bind fun x => (isiR "list" (eA v_due_here)).bind fun y => R.ok (!decide (x = y))).bind fun a => if a then R.ok true else (((R.ok v_found).bind fun x => isi2R "list" "tuple" (eA x)).bind fun b => R.ok (!b))).bind fun b => if b then (R.ok false) else ((R.ok ()).bind fun (_ : Unit) => R.ok ()).bind fun _ => (((lenA v_found).bind fun x => (lenA v_due_here).bind fun y => R.ok (!decide (x = y))).bind fun b => if b then (R.ok false) else ((R.ok ()).bind fun (_ : Unit) => R.ok ()).bind fun _ => ((((R.ok v_found).bind fun l => (R.ok v_due_here).bind fun k => zipAR l k).bind fun l => forR (T_law_alike_b1 TR) l ()).bind fun t => t.thx fun _ => (R.ok true)))))
def T_law_alike : Nat → D → D → R Bool
  | 0 => fun _ _ => R.bad
  | k + 1 => B_law_alike (T_law_alike k)
theorem sim_law_alike : ∀ (k : Nat) (v_found : D) (v_due_here : D), Ref (M_law_alike k [eA v_found, eA v_due_here]) ((T_law_alike k v_found v_due_here).map D.bl)
  | 0, _, _ => .inl rfl
  | k + 1, v_found, v_due_here => by
    have simR := sim_law_alike k
    show Ref (runF 4 (G_law_alike (M_law_alike k)) [eA v_found, eA v_due_here]) ((B_law_alike (T_law_alike k) v_found v_due_here).map D.bl)
    generalize M_law_alike k = MR at *
    generalize T_law_alike k = TR at *
    exact run_x (p := [some (eA v_found), some (eA v_due_here), none, none]) (by unfold G_law_alike B_law_alike; exact (sx_ifT (by exact (sc_orE (sc_valE (se_isiP (sp_var (i := 1)))) (sc_orE (sc_valE (se_isiP (sp_var (i := 1)))) (sc_valE (se_isiP (sp_var (i := 1))))))) (sx_ifT (by exact (sc_orE (sc_valE (se_op (k := gNe) (ea := D.bl) (eb := D.bl) (ec := D.bl) (h := fun (x : Bool) (y : Bool) => R.ok (!decide (x = y))) (fun x y => Ref.of rfl) (se_isiP (sp_var (i := 0))) (se_isiP (sp_var (i := 1))))) (sc_valE (se_op (k := gNe) (ea := D.bl) (eb := D.bl) (ec := D.bl) (h := fun (x : Bool) (y : Bool) => R.ok (!decide (x = y))) (fun x y => Ref.of rfl) (se_isiP (sp_var (i := 0))) (se_isiP (sp_var (i := 1))))))) (sx_ret (by exact (SP.se (ea := D.bl) (x := false) sp_c))) (sn_yield (P := fun (_ : Unit) => [some (eA v_found), some (eA v_due_here), none, none]) sn_nil (fun (_ : Unit) => ()) (fun (_ : Unit) => by exact And.intro rfl (And.intro rfl (trivial)))) (fun _ => (sx_ret (by exact (se_and (se_isi2 (SP.se (ea := eA) (x := v_found) (sp_var (i := 0)))) (se_opP (k := gEq) (ec := D.bl) (k_eqA v_found v_due_here) (sp_var (i := 0)) (sp_var (i := 1)))))))) (sn_yield (P := fun (_ : Unit) => [some (eA v_found), some (eA v_due_here), none, none]) sn_nil (fun (_ : Unit) => ()) (fun (_ : Unit) => by exact And.intro rfl (And.intro rfl (trivial)))) (fun _ => (sx_ifT (by exact (sc_orE (sc_valE (se_op (k := gNe) (ea := D.bl) (eb := D.bl) (ec := D.bl) (h := fun (x : Bool) (y : Bool) => R.ok (!decide (x = y))) (fun x y => Ref.of rfl) (se_isiP (sp_var (i := 0))) (se_isiP (sp_var (i := 1))))) (sc_notE (sc_valE (se_isi2 (SP.se (ea := eA) (x := v_found) (sp_var (i := 0)))))))) (sx_ret (by exact (SP.se (ea := D.bl) (x := false) sp_c))) (sn_yield (P := fun (_ : Unit) => [some (eA v_found), some (eA v_due_here), none, none]) sn_nil (fun (_ : Unit) => ()) (fun (_ : Unit) => by exact And.intro rfl (And.intro rfl (trivial)))) (fun _ => (sx_ifT (by exact (sc_valE (se_op (k := gNe) (ea := D.int) (eb := D.int) (ec := D.bl) (h := fun (x : Int) (y : Int) => R.ok (!decide (x = y))) (fun x y => Ref.of rfl) (se_b (k := gLen) (ea := D.int) (sa_cons (d := (eA v_found)) (sp_var (i := 0)) sa_nil) (k_lenA v_found)) (se_b (k := gLen) (ea := D.int) (sa_cons (d := (eA v_due_here)) (sp_var (i := 1)) sa_nil) (k_lenA v_due_here))))) (sx_ret (by exact (SP.se (ea := D.bl) (x := false) sp_c))) (sn_yield (P := fun (_ : Unit) => [some (eA v_found), some (eA v_due_here), none, none]) sn_nil (fun (_ : Unit) => ()) (fun (_ : Unit) => by exact And.intro rfl (And.intro rfl (trivial)))) (fun _ => (sx_seqB (sb_forP (P := fun (s1 : Unit) => [some (eA v_found), some (eA v_due_here), none, none]) (Pt := fun (s1 : Unit) (a2 : (D × D)) => [some (eA v_found), some (eA v_due_here), some (eA a2.1), some (eA a2.2)]) (st := (T_law_alike_b1 TR)) () (si_zipA (SP.se (ea := eA) (x := v_found) (sp_var (i := 0))) (SP.se (ea := eA) (x := v_due_here) (sp_var (i := 1)))) (by exact And.intro rfl (And.intro rfl (trivial))) (fun _ _ _ he => (he.set 2).set 3) (fun s1 a2 => by unfold T_law_alike_b1; exact (sb_if (by exact (sc_notE (sc_valE (se_call (sa_cons (d := (eA a2.1)) (sp_var (i := 2)) (sa_cons (d := (eA a2.2)) (sp_var (i := 3)) sa_nil)) (simR a2.1 a2.2))))) (sb_x (P := fun (s1 : Unit) => [some (eA v_found), some (eA v_due_here), none, none]) (sx_ret (by exact (SP.se (ea := D.bl) (x := false) sp_c)))) (sb_n (sn_yield (P := fun (s1 : Unit) => [some (eA v_found), some (eA v_due_here), none, none]) (sn_yield (P := fun (_ : Unit) => [some (eA v_found), some (eA v_due_here), some (eA a2.1), some (eA a2.2)]) sn_nil (fun (_ : Unit) => ()) (fun (_ : Unit) => by exact And.intro rfl (And.intro rfl (And.intro rfl (And.intro rfl (trivial)))))) (fun (_ : Unit) => ()) (fun (_ : Unit) => by exact And.intro rfl (And.intro rfl (trivial)))))))) (fun _ => (sx_ret (by exact (SP.se (ea := D.bl) (x := true) sp_c)))))))))))) (And.intro rfl (And.intro rfl (trivial)))
def G_law_kinds : List D → R Fl := (sSeq (sAsg 1 (eLst aNil)) (sSeq (sIf (tVal (eIsE 0 "Never")) (sOwn 1 gApp (aCons (eC (.str "Never")) aNil)) sNil) (sSeq (sIf (tVal (eIsE 0 "NoElder")) (sOwn 1 gApp (aCons (eC (.str "NoElder")) aNil)) sNil) (sSeq (sIf (tVal (eIsE 0 "NoName")) (sOwn 1 gApp (aCons (eC (.str "NoName")) aNil)) sNil) (sSeq (sIf (tVal (eIsE 0 "NoRatio")) (sOwn 1 gApp (aCons (eC (.str "NoRatio")) aNil)) sNil) (sSeq (sIf (tVal (eIsE 0 "NoRow")) (sOwn 1 gApp (aCons (eC (.str "NoRow")) aNil)) sNil) (sSeq (sIf (tVal (eIsE 0 "NoText")) (sOwn 1 gApp (aCons (eC (.str "NoText")) aNil)) sNil) (sSeq (sIf (tVal (eIsE 0 "NoValue")) (sOwn 1 gApp (aCons (eC (.str "NoValue")) aNil)) sNil) (sSeq (sIf (tVal (eIsE 0 "NoWord")) (sOwn 1 gApp (aCons (eC (.str "NoWord")) aNil)) sNil) (sSeq (sIf (tVal (eIsE 0 "Twice")) (sOwn 1 gApp (aCons (eC (.str "Twice")) aNil)) sNil) (sSeq (sIf (tVal (eIsE 0 "WrongOrder")) (sOwn 1 gApp (aCons (eC (.str "WrongOrder")) aNil)) sNil) (sSeq (sIf (tVal (eIsE 0 "WrongSize")) (sOwn 1 gApp (aCons (eC (.str "WrongSize")) aNil)) sNil) (sSeq (sIf (tVal (eIsE 0 "WrongTable")) (sOwn 1 gApp (aCons (eC (.str "WrongTable")) aNil)) sNil) (sSeq (sIf (tNotB (tVal (eIsV 0))) (sOwn 1 gApp (aCons (eC (.str "no ValueError")) aNil)) sNil) (sRet (eVar 1))))))))))))))))
def M_law_kinds : List D → R D := runFr 2 (G_law_kinds)
def T_law_kinds (ec : Str) : R (List Str) := ((R.ok ([] : (List Str))).bind fun (v_some : (List Str)) => (((R.ok (kinB ec "Never")).bind fun b => if b then ((appR v_some ("Never" : Str)).bind fun (v_some : (List Str)) => R.ok v_some) else ((R.ok ()).bind fun (_ : Unit) => R.ok v_some)).bind fun (v_some : (List Str)) => (((R.ok (kinB ec "NoElder")).bind fun b => if b then ((appR v_some ("NoElder" : Str)).bind fun (v_some : (List Str)) => R.ok v_some) else ((R.ok ()).bind fun (_ : Unit) => R.ok v_some)).bind fun (v_some : (List Str)) => (((R.ok (kinB ec "NoName")).bind fun b => if b then ((appR v_some ("NoName" : Str)).bind fun (v_some : (List Str)) => R.ok v_some) else ((R.ok ()).bind fun (_ : Unit) => R.ok v_some)).bind fun (v_some : (List Str)) => (((R.ok (kinB ec "NoRatio")).bind fun b => if b then ((appR v_some ("NoRatio" : Str)).bind fun (v_some : (List Str)) => R.ok v_some) else ((R.ok ()).bind fun (_ : Unit) => R.ok v_some)).bind fun (v_some : (List Str)) => (((R.ok (kinB ec "NoRow")).bind fun b => if b then ((appR v_some ("NoRow" : Str)).bind fun (v_some : (List Str)) => R.ok v_some) else ((R.ok ()).bind fun (_ : Unit) => R.ok v_some)).bind fun (v_some : (List Str)) => (((R.ok (kinB ec "NoText")).bind fun b => if b then ((appR v_some ("NoText" : Str)).bind fun (v_some : (List Str)) => R.ok v_some) else ((R.ok ()).bind fun (_ : Unit) => R.ok v_some)).bind fun (v_some : (List Str)) => (((R.ok (kinB ec "NoValue")).bind fun b => if b then ((appR v_some ("NoValue" : Str)).bind fun (v_some : (List Str)) => R.ok v_some) else ((R.ok ()).bind fun (_ : Unit) => R.ok v_some)).bind fun (v_some : (List Str)) => (((R.ok (kinB ec "NoWord")).bind fun b => if b then ((appR v_some ("NoWord" : Str)).bind fun (v_some : (List Str)) => R.ok v_some) else ((R.ok ()).bind fun (_ : Unit) => R.ok v_some)).bind fun (v_some : (List Str)) => (((R.ok (kinB ec "Twice")).bind fun b => if b then ((appR v_some ("Twice" : Str)).bind fun (v_some : (List Str)) => R.ok v_some) else ((R.ok ()).bind fun (_ : Unit) => R.ok v_some)).bind fun (v_some : (List Str)) => (((R.ok (kinB ec "WrongOrder")).bind fun b => if b then ((appR v_some ("WrongOrder" : Str)).bind fun (v_some : (List Str)) => R.ok v_some) else ((R.ok ()).bind fun (_ : Unit) => R.ok v_some)).bind fun (v_some : (List Str)) => (((R.ok (kinB ec "WrongSize")).bind fun b => if b then ((appR v_some ("WrongSize" : Str)).bind fun (v_some : (List Str)) => R.ok v_some) else ((R.ok ()).bind fun (_ : Unit) => R.ok v_some)).bind fun (v_some : (List Str)) => (((R.ok (kinB ec "WrongTable")).bind fun b => if b then ((appR v_some ("WrongTable" : Str)).bind fun (v_some : (List Str)) => R.ok v_some) else ((R.ok ()).bind fun (_ : Unit) => R.ok v_some)).bind fun (v_some : (List Str)) => (((R.ok (!true)).bind fun b => if b then ((appR v_some ("no ValueError" : Str)).bind fun (v_some : (List Str)) => R.ok v_some) else ((R.ok ()).bind fun (_ : Unit) => R.ok v_some)).bind fun (v_some : (List Str)) => (R.ok v_some)))))))))))))))
theorem sim_law_kinds (ec : Str) : Ref (M_law_kinds [.str ec]) ((T_law_kinds ec).map (eL D.str)) := by
  unfold M_law_kinds
  exact run_xr (n := 2) (p := [some (D.str ec), none]) (by unfold G_law_kinds T_law_kinds; exact (sx_seq (sn_asg (i := 1) (ea := (eL D.str)) (P := fun (v_some : (List Str)) => [some (D.str ec), some ((eL D.str) v_some)]) (by exact (SP.se (ea := (eL D.str)) (x := ([] : (List Str))) (sp_lst sa_nil)))) (fun (v_some : (List Str)) => (sx_seq (sn_if (by exact (SCp.sc (sc_val (sp_isE (c := ec) rfl)))) (sn_yield (P := fun (v_some : (List Str)) => [some (D.str ec), some ((eL D.str) v_some)]) (sn_appP (i := 1) (l := v_some) (x := ("Never" : Str)) (ea := D.str) (P := fun (v_some : (List Str)) => [some (D.str ec), some ((eL D.str) v_some)]) rfl sp_c) (fun (v_some : (List Str)) => v_some) (fun (v_some : (List Str)) => by exact And.intro rfl (And.intro rfl (trivial)))) (sn_yield (P := fun (v_some : (List Str)) => [some (D.str ec), some ((eL D.str) v_some)]) sn_nil (fun (_ : Unit) => v_some) (fun (_ : Unit) => by exact And.intro rfl (And.intro rfl (trivial))))) (fun (v_some : (List Str)) => (sx_seq (sn_if (by exact (SCp.sc (sc_val (sp_isE (c := ec) rfl)))) (sn_yield (P := fun (v_some : (List Str)) => [some (D.str ec), some ((eL D.str) v_some)]) (sn_appP (i := 1) (l := v_some) (x := ("NoElder" : Str)) (ea := D.str) (P := fun (v_some : (List Str)) => [some (D.str ec), some ((eL D.str) v_some)]) rfl sp_c) (fun (v_some : (List Str)) => v_some) (fun (v_some : (List Str)) => by exact And.intro rfl (And.intro rfl (trivial)))) (sn_yield (P := fun (v_some : (List Str)) => [some (D.str ec), some ((eL D.str) v_some)]) sn_nil (fun (_ : Unit) => v_some) (fun (_ : Unit) => by exact And.intro rfl (And.intro rfl (trivial))))) (fun (v_some : (List Str)) => (sx_seq (sn_if (by exact (SCp.sc (sc_val (sp_isE (c := ec) rfl)))) (sn_yield (P := fun (v_some : (List Str)) => [some (D.str ec), some ((eL D.str) v_some)]) (sn_appP (i := 1) (l := v_some) (x := ("NoName" : Str)) (ea := D.str) (P := fun (v_some : (List Str)) => [some (D.str ec), some ((eL D.str) v_some)]) rfl sp_c) (fun (v_some : (List Str)) => v_some) (fun (v_some : (List Str)) => by exact And.intro rfl (And.intro rfl (trivial)))) (sn_yield (P := fun (v_some : (List Str)) => [some (D.str ec), some ((eL D.str) v_some)]) sn_nil (fun (_ : Unit) => v_some) (fun (_ : Unit) => by exact And.intro rfl (And.intro rfl (trivial))))) (fun (v_some : (List Str)) => (sx_seq (sn_if (by exact (SCp.sc (sc_val (sp_isE (c := ec) rfl)))) (sn_yield (P := fun (v_some : (List Str)) => [some (D.str ec), some ((eL D.str) v_some)]) (sn_appP (i := 1) (l := v_some) (x := ("NoRatio" : Str)) (ea := D.str) (P := fun (v_some : (List Str)) => [some (D.str ec), some ((eL D.str) v_some)]) rfl sp_c) (fun (v_some : (List Str)) => v_some) (fun (v_some : (List Str)) => by exact And.intro rfl (And.intro rfl (trivial)))) (sn_yield (P := fun (v_some : (List Str)) => [some (D.str ec), some ((eL D.str) v_some)]) sn_nil (fun (_ : Unit) => v_some) (fun (_ : Unit) => by exact And.intro rfl (And.intro rfl (trivial))))) (fun (v_some : (List Str)) => (sx_seq (sn_if (by exact (SCp.sc (sc_val (sp_isE (c := ec) rfl)))) (sn_yield (P := fun (v_some : (List Str)) => [some (D.str ec), some ((eL D.str) v_some)]) (sn_appP (i := 1) (l := v_some) (x := ("NoRow" : Str)) (ea := D.str) (P := fun (v_some : (List Str)) => [some (D.str ec), some ((eL D.str) v_some)]) rfl sp_c) (fun (v_some : (List Str)) => v_some) (fun (v_some : (List Str)) => by exact And.intro rfl (And.intro rfl (trivial)))) (sn_yield (P := fun (v_some : (List Str)) => [some (D.str ec), some ((eL D.str) v_some)]) sn_nil (fun (_ : Unit) => v_some) (fun (_ : Unit) => by exact And.intro rfl (And.intro rfl (trivial))))) (fun (v_some : (List Str)) => (sx_seq (sn_if (by exact (SCp.sc (sc_val (sp_isE (c := ec) rfl)))) (sn_yield (P := fun (v_some : (List Str)) => [some (D.str ec), some ((eL D.str) v_some)]) (sn_appP (i := 1) (l := v_some) (x := ("NoText" : Str)) (ea := D.str) (P := fun (v_some : (List Str)) => [some (D.str ec), some ((eL D.str) v_some)]) rfl sp_c) (fun (v_some : (List Str)) => v_some) (fun (v_some : (List Str)) => by exact And.intro rfl (And.intro rfl (trivial)))) (sn_yield (P := fun (v_some : (List Str)) => [some (D.str ec), some ((eL D.str) v_some)]) sn_nil (fun (_ : Unit) => v_some) (fun (_ : Unit) => by exact And.intro rfl (And.intro rfl (trivial))))) (fun (v_some : (List Str)) => (sx_seq (sn_if (by exact (SCp.sc (sc_val (sp_isE (c := ec) rfl)))) (sn_yield (P := fun (v_some : (List Str)) => [some (D.str ec), some ((eL D.str) v_some)]) (sn_appP (i := 1) (l := v_some) (x := ("NoValue" : Str)) (ea := D.str) (P := fun (v_some : (List Str)) => [some (D.str ec), some ((eL D.str) v_some)]) rfl sp_c) (fun (v_some : (List Str)) => v_some) (fun (v_some : (List Str)) => by exact And.intro rfl (And.intro rfl (trivial)))) (sn_yield (P := fun (v_some : (List Str)) => [some (D.str ec), some ((eL D.str) v_some)]) sn_nil (fun (_ : Unit) => v_some) (fun (_ : Unit) => by exact And.intro rfl (And.intro rfl (trivial))))) (fun (v_some : (List Str)) => (sx_seq (sn_if (by exact (SCp.sc (sc_val (sp_isE (c := ec) rfl)))) (sn_yield (P := fun (v_some : (List Str)) => [some (D.str ec), some ((eL D.str) v_some)]) (sn_appP (i := 1) (l := v_some) (x := ("NoWord" : Str)) (ea := D.str) (P := fun (v_some : (List Str)) => [some (D.str ec), some ((eL D.str) v_some)]) rfl sp_c) (fun (v_some : (List Str)) => v_some) (fun (v_some : (List Str)) => by exact And.intro rfl (And.intro rfl (trivial)))) (sn_yield (P := fun (v_some : (List Str)) => [some (D.str ec), some ((eL D.str) v_some)]) sn_nil (fun (_ : Unit) => v_some) (fun (_ : Unit) => by exact And.intro rfl (And.intro rfl (trivial))))) (fun (v_some : (List Str)) => (sx_seq (sn_if (by exact (SCp.sc (sc_val (sp_isE (c := ec) rfl)))) (sn_yield (P := fun (v_some : (List Str)) => [some (D.str ec), some ((eL D.str) v_some)]) (sn_appP (i := 1) (l := v_some) (x := ("Twice" : Str)) (ea := D.str) (P := fun (v_some : (List Str)) => [some (D.str ec), some ((eL D.str) v_some)]) rfl sp_c) (fun (v_some : (List Str)) => v_some) (fun (v_some : (List Str)) => by exact And.intro rfl (And.intro rfl (trivial)))) (sn_yield (P := fun (v_some : (List Str)) => [some (D.str ec), some ((eL D.str) v_some)]) sn_nil (fun (_ : Unit) => v_some) (fun (_ : Unit) => by exact And.intro rfl (And.intro rfl (trivial))))) (fun (v_some : (List Str)) => (sx_seq (sn_if (by exact (SCp.sc (sc_val (sp_isE (c := ec) rfl)))) (sn_yield (P := fun (v_some : (List Str)) => [some (D.str ec), some ((eL D.str) v_some)]) (sn_appP (i := 1) (l := v_some) (x := ("WrongOrder" : Str)) (ea := D.str) (P := fun (v_some : (List Str)) => [some (D.str ec), some ((eL D.str) v_some)]) rfl sp_c) (fun (v_some : (List Str)) => v_some) (fun (v_some : (List Str)) => by exact And.intro rfl (And.intro rfl (trivial)))) (sn_yield (P := fun (v_some : (List Str)) => [some (D.str ec), some ((eL D.str) v_some)]) sn_nil (fun (_ : Unit) => v_some) (fun (_ : Unit) => by exact And.intro rfl (And.intro rfl (trivial))))) (fun (v_some : (List Str)) => (sx_seq (sn_if (by exact (SCp.sc (sc_val (sp_isE (c := ec) rfl)))) (sn_yield (P := fun (v_some : (List Str)) => [some (D.str ec), some ((eL D.str) v_some)]) (sn_appP (i := 1) (l := v_some) (x := ("WrongSize" : Str)) (ea := D.str) (P := fun (v_some : (List Str)) => [some (D.str ec), some ((eL D.str) v_some)]) rfl sp_c) (fun (v_some : (List Str)) => v_some) (fun (v_some : (List Str)) => by exact And.intro rfl (And.intro rfl (trivial)))) (sn_yield (P := fun (v_some : (List Str)) => [some (D.str ec), some ((eL D.str) v_some)]) sn_nil (fun (_ : Unit) => v_some) (fun (_ : Unit) => by exact And.intro rfl (And.intro rfl (trivial))))) (fun (v_some : (List Str)) => (sx_seq (sn_if (by exact (SCp.sc (sc_val (sp_isE (c := ec) rfl)))) (sn_yield (P := fun (v_some : (List Str)) => [some (D.str ec), some ((eL D.str) v_some)]) (sn_appP (i := 1) (l := v_some) (x := ("WrongTable" : Str)) (ea := D.str) (P := fun (v_some : (List Str)) => [some (D.str ec), some ((eL D.str) v_some)]) rfl sp_c) (fun (v_some : (List Str)) => v_some) (fun (v_some : (List Str)) => by exact And.intro rfl (And.intro rfl (trivial)))) (sn_yield (P := fun (v_some : (List Str)) => [some (D.str ec), some ((eL D.str) v_some)]) sn_nil (fun (_ : Unit) => v_some) (fun (_ : Unit) => by exact And.intro rfl (And.intro rfl (trivial))))) (fun (v_some : (List Str)) => (sx_seq (sn_if (by exact (SCp.sc (sc_not (sc_val (sp_isV (c := ec) rfl))))) (sn_yield (P := fun (v_some : (List Str)) => [some (D.str ec), some ((eL D.str) v_some)]) (sn_appP (i := 1) (l := v_some) (x := ("no ValueError" : Str)) (ea := D.str) (P := fun (v_some : (List Str)) => [some (D.str ec), some ((eL D.str) v_some)]) rfl sp_c) (fun (v_some : (List Str)) => v_some) (fun (v_some : (List Str)) => by exact And.intro rfl (And.intro rfl (trivial)))) (sn_yield (P := fun (v_some : (List Str)) => [some (D.str ec), some ((eL D.str) v_some)]) sn_nil (fun (_ : Unit) => v_some) (fun (_ : Unit) => by exact And.intro rfl (And.intro rfl (trivial))))) (fun (v_some : (List Str)) => (sx_ret (by exact (SP.se (ea := (eL D.str)) (x := v_some) (sp_var (i := 1)))))))))))))))))))))))))))))))))) (And.intro rfl (trivial))
def G_law_due : List D → R Fl := (sSeq (sAsg 1 (eLst aNil)) (sSeq (sFor (iLst (eVar 0)) (tgTup [2, 3, 4, 5]) (sSeq (sAsg 6 (eAsT .fr (eComp (iLst (eVar 5)) (tgName 7) tTrue (eAsT .im (eVar 7))))) (sOwn 1 gApp (aCons (eTup (aCons (eVar 2) (aCons (eAsT .im (eVar 3)) (aCons (eAsT .im (eVar 4)) (aCons (eB gSum (aCons (eIx (eVar 5) (eC (.int 0))) aNil)) (aCons (eVar 6) aNil)))))) aNil)))) (sRet (eAsT .oc (eVar 1)))))
def M_law_due : List D → R D := runF 8 (G_law_due)
def T_law_due_b1  (s1 : (List (Str × (List Str) × (List Str) × Int × (List (List Int))))) (a2 : (Str × (List Str) × (List Str) × (List (List Int)))) : R (List (Str × (List Str) × (List Str) × Int × (List (List Int)))) := (((R.ok a2.2.2.2).bind fun l => (cmpR (fun (a3 : (List Int)) => (R.ok true)) (fun (a3 : (List Int)) => (R.ok a3)) l).bind fitN).bind fun (v_numbers : (List (List Int))) => (((((R.ok a2.1).bind fun x => ((R.ok a2.2.1).bind fun x => ((R.ok a2.2.2.1).bind fun x => ((((atR a2.2.2.2 (0 : Int)).bind fun x => (R.ok ()).bind fun xs => R.ok (x, xs)).bind fun t => R.ok (List.sum t.1)).bind fun x => ((R.ok v_numbers).bind fun x => (R.ok ()).bind fun xs => R.ok (x, xs)).bind fun xs => R.ok (x, xs)).bind fun xs => R.ok (x, xs)).bind fun xs => R.ok (x, xs)).bind fun xs => R.ok (x, xs)).bind fun t => R.ok (t.1, t.2.1, t.2.2.1, t.2.2.2.1, t.2.2.2.2.1)).bind fun x => appR s1 x).bind fun (v_entries : (List (Str × (List Str) × (List Str) × Int × (List (List Int))))) => R.ok v_entries))
def T_law_due (v_rows_here : (List (Str × (List Str) × (List Str) × (List (List Int))))) : R (List (Str × (List Str) × (List Str) × Int × (List (List Int)))) := ((R.ok ([] : (List (Str × (List Str) × (List Str) × Int × (List (List Int)))))).bind fun (v_entries : (List (Str × (List Str) × (List Str) × Int × (List (List Int))))) => (((R.ok v_rows_here).bind fun l => foldR T_law_due_b1 l v_entries).bind fun (v_entries : (List (Str × (List Str) × (List Str) × Int × (List (List Int))))) => (R.ok v_entries)))
theorem sim_law_due (v_rows_here : (List (Str × (List Str) × (List Str) × (List (List Int))))) : Ref (M_law_due [(eL (e4 D.str (eL D.str) (eL D.str) (eL (eL D.int)))) v_rows_here]) ((T_law_due v_rows_here).map (eT (e5 D.str (eT D.str) (eT D.str) D.int (eT (eT D.int))))) := by
  unfold M_law_due
  exact run_x (n := 8) (p := [some ((eL (e4 D.str (eL D.str) (eL D.str) (eL (eL D.int)))) v_rows_here), none, none, none, none, none, none, none]) (by unfold G_law_due T_law_due; exact (sx_seq (sn_asg (i := 1) (ea := (eL (e5 D.str (eT D.str) (eT D.str) D.int (eT (eT D.int))))) (P := fun (v_entries : (List (Str × (List Str) × (List Str) × Int × (List (List Int))))) => [some ((eL (e4 D.str (eL D.str) (eL D.str) (eL (eL D.int)))) v_rows_here), some ((eL (e5 D.str (eT D.str) (eT D.str) D.int (eT (eT D.int)))) v_entries), none, none, none, none, none, none]) (by exact (SP.se (ea := (eL (e5 D.str (eT D.str) (eT D.str) D.int (eT (eT D.int))))) (x := ([] : (List (Str × (List Str) × (List Str) × Int × (List (List Int)))))) (sp_lst sa_nil)))) (fun (v_entries : (List (Str × (List Str) × (List Str) × Int × (List (List Int))))) => (sx_seq (sn_for (P := fun (s1 : (List (Str × (List Str) × (List Str) × Int × (List (List Int))))) => [some ((eL (e4 D.str (eL D.str) (eL D.str) (eL (eL D.int)))) v_rows_here), some ((eL (e5 D.str (eT D.str) (eT D.str) D.int (eT (eT D.int)))) s1), none, none, none, none, none, none]) (Pt := fun (s1 : (List (Str × (List Str) × (List Str) × Int × (List (List Int))))) (a2 : (Str × (List Str) × (List Str) × (List (List Int)))) => [some ((eL (e4 D.str (eL D.str) (eL D.str) (eL (eL D.int)))) v_rows_here), some ((eL (e5 D.str (eT D.str) (eT D.str) D.int (eT (eT D.int)))) s1), some (D.str a2.1), some ((eL D.str) a2.2.1), some ((eL D.str) a2.2.2.1), some ((eL (eL D.int)) a2.2.2.2), none, none]) (st := T_law_due_b1) v_entries (si_lst (ea := (e4 D.str (eL D.str) (eL D.str) (eL (eL D.int)))) (SP.se (ea := (eL (e4 D.str (eL D.str) (eL D.str) (eL (eL D.int))))) (x := v_rows_here) (sp_var (i := 0)))) (by exact And.intro rfl (And.intro rfl (trivial))) (fun _ => (fun _ _ he => ⟨_, rfl, ((((he.set 2).set 3).set 4).set 5)⟩)) (fun s1 a2 => by unfold T_law_due_b1; exact (sn_seq (sn_asg (i := 6) (ea := (eT (eT D.int))) (P := fun (v_numbers : (List (List Int))) => [some ((eL (e4 D.str (eL D.str) (eL D.str) (eL (eL D.int)))) v_rows_here), some ((eL (e5 D.str (eT D.str) (eT D.str) D.int (eT (eT D.int)))) s1), some (D.str a2.1), some ((eL D.str) a2.2.1), some ((eL D.str) a2.2.2.1), some ((eL (eL D.int)) a2.2.2.2), some ((eT (eT D.int)) v_numbers), none]) (by exact (se_asT (ea := (eT D.int)) (se_comp (Pt := fun (a3 : (List Int)) => [some ((eL (e4 D.str (eL D.str) (eL D.str) (eL (eL D.int)))) v_rows_here), some ((eL (e5 D.str (eT D.str) (eT D.str) D.int (eT (eT D.int)))) s1), some (D.str a2.1), some ((eL D.str) a2.2.1), some ((eL D.str) a2.2.2.1), some ((eL (eL D.int)) a2.2.2.2), none, some ((eL D.int) a3)]) (si_lst (ea := (eL D.int)) (SP.se (ea := (eL (eL D.int))) (x := a2.2.2.2) (sp_var (i := 5)))) (TGs.le (p' := [some ((eL (e4 D.str (eL D.str) (eL D.str) (eL (eL D.int)))) v_rows_here), some ((eL (e5 D.str (eT D.str) (eT D.str) D.int (eT (eT D.int)))) s1), some (D.str a2.1), some ((eL D.str) a2.2.1), some ((eL D.str) a2.2.2.1), some ((eL (eL D.int)) a2.2.2.2), none, none]) ((show PLe [some ((eL (e4 D.str (eL D.str) (eL D.str) (eL (eL D.int)))) v_rows_here), some ((eL (e5 D.str (eT D.str) (eT D.str) D.int (eT (eT D.int)))) s1), some (D.str a2.1), some ((eL D.str) a2.2.1), some ((eL D.str) a2.2.2.1), some ((eL (eL D.int)) a2.2.2.2), none, none] _ by exact And.intro rfl (And.intro rfl (And.intro rfl (And.intro rfl (And.intro rfl (And.intro rfl (trivial)))))))) tg_name) (fun a3 => (by exact (SCp.sc sc_true))) (fun a3 => (by exact (SP.se (ea := (eT D.int)) (x := a3) (sp_asT (ea := D.int) (l := a3) (sp_var (i := 7)) rfl))))) (fun _ => rfl)))) (fun (v_numbers : (List (List Int))) => (sn_yield (P := fun (s1 : (List (Str × (List Str) × (List Str) × Int × (List (List Int))))) => [some ((eL (e4 D.str (eL D.str) (eL D.str) (eL (eL D.int)))) v_rows_here), some ((eL (e5 D.str (eT D.str) (eT D.str) D.int (eT (eT D.int)))) s1), none, none, none, none, none, none]) (sn_app (i := 1) (l := s1) (ea := (e5 D.str (eT D.str) (eT D.str) D.int (eT (eT D.int)))) (P := fun (v_entries : (List (Str × (List Str) × (List Str) × Int × (List (List Int))))) => [some ((eL (e4 D.str (eL D.str) (eL D.str) (eL (eL D.int)))) v_rows_here), some ((eL (e5 D.str (eT D.str) (eT D.str) D.int (eT (eT D.int)))) v_entries), some (D.str a2.1), some ((eL D.str) a2.2.1), some ((eL D.str) a2.2.2.1), some ((eL (eL D.int)) a2.2.2.2), some ((eT (eT D.int)) v_numbers), none]) rfl (se_tup (ea := (e5 D.str (eT D.str) (eT D.str) D.int (eT (eT D.int)))) (T := fun (t : (Str × (List Str) × (List Str) × Int × (List (List Int)) × Unit)) => (t.1, t.2.1, t.2.2.1, t.2.2.2.1, t.2.2.2.2.1)) (sa_consE (SP.se (ea := D.str) (x := a2.1) (sp_var (i := 2))) (sa_consE (SP.se (ea := (eT D.str)) (x := a2.2.1) (sp_asT (ea := D.str) (l := a2.2.1) (sp_var (i := 3)) rfl)) (sa_consE (SP.se (ea := (eT D.str)) (x := a2.2.2.1) (sp_asT (ea := D.str) (l := a2.2.2.1) (sp_var (i := 4)) rfl)) (sa_consE (se_bE (k := gSum) (ea := D.int) (T := fun (t : ((List Int) × Unit)) => R.ok (List.sum t.1)) (sa_consE (se_ixP (ec := (eL D.int)) (k_atL a2.2.2.2 (0 : Int)) (sp_var (i := 5)) sp_c) sa_nilE) (fun t => Ref.of (congrArg ofO (g_sumL _)))) (sa_consE (SP.se (ea := (eT (eT D.int))) (x := v_numbers) (sp_var (i := 6))) sa_nilE))))) (fun _ => rfl))) (fun (v_entries : (List (Str × (List Str) × (List Str) × Int × (List (List Int))))) => v_entries) (fun (v_entries : (List (Str × (List Str) × (List Str) × Int × (List (List Int))))) => by exact And.intro rfl (And.intro rfl (trivial)))))))) (fun (v_entries : (List (Str × (List Str) × (List Str) × Int × (List (List Int))))) => (sx_ret (by exact (SP.se (ea := (eT (e5 D.str (eT D.str) (eT D.str) D.int (eT (eT D.int))))) (x := v_entries) (sp_asT (ea := (e5 D.str (eT D.str) (eT D.str) D.int (eT (eT D.int)))) (l := v_entries) (sp_var (i := 1)) rfl))))))))) (And.intro rfl (trivial))
/-! ### nets -/
abbrev NE := Str × List Str × List Str × Int × List (List Int)
abbrev NRow := Str × List Str × List Str × List (List Int)
def abc : List Nat := (Str.ofString "abcdefghijklmnopqrstuvwxyz").cps.toList
def isW (z : Str) : Bool := decide (1 ≤ z.length) && decide (z.length ≤ 8) && z.cps.toList.all fun c => decide (c ∈ abc)
theorem isW_len {z : Str} (h : isW z = true) : 1 ≤ z.length ∧ z.length ≤ 8 := by
  unfold isW at h
  simp only [Bool.and_eq_true, decide_eq_true_iff] at h
  exact h.1
theorem lenS_ok {z : Str} (h : z.length ≤ sizeLine) : lenS z = .ok (z.length : Int) := if_pos h
theorem nin_abc (c : Nat) : ninSR ⟨#[c]⟩ "abcdefghijklmnopqrstuvwxyz" = .ok (!decide (c ∈ abc)) := by
  unfold ninSR
  rw [sign1_one]
  rfl
theorem for_word : ∀ cs : List Nat, forR T_is_word_b1 (cs.map fun c => (⟨#[c]⟩ : Str)) () = .ok (if cs.all (fun c => decide (c ∈ abc)) then .nx () else .rt false)
  | [] => rfl
  | c :: cs => by
    rw [List.map_cons, forR, T_is_word_b1, nin_abc, List.all_cons]
    by_cases hc : c ∈ abc
    · simp only [hc, decide_true, Bool.not_true, R.bind_ok, Bool.false_eq_true, if_false, TF.thn_nx, Bool.true_and]
      exact for_word cs
    · simp [hc]
theorem T_is_word_eq {z : Str} (h : z.length ≤ sizeLine) : T_is_word z = .ok (isW z) := by
  unfold T_is_word isW sgns
  simp only [lenS_ok h, R.bind_ok, for_word]
  by_cases h1 : z.length < 1
  · simp [show (z.length : Int) < 1 by omega, show ¬ 1 ≤ z.length by omega]
  · by_cases h2 : 8 < z.length
    · simp [show ¬ (z.length : Int) < 1 by omega, show (8 : Int) < z.length by omega, show ¬ z.length ≤ 8 by omega]
    · cases hc : z.cps.toList.all (fun c => decide (c ∈ abc)) with
      | true => simp [show ¬ (z.length : Int) < 1 by omega, show ¬ (8 : Int) < z.length by omega, show z.length ≤ 8 by omega, show 1 ≤ z.length by omega]
      | false => simp [show ¬ (z.length : Int) < 1 by omega, show ¬ (8 : Int) < z.length by omega]
theorem T_names_of_eq {net : List NE} (h : net.length ≤ sizeLine) : T_names_of net = .ok (net.map (·.1)) := by
  unfold T_names_of
  rw [R.bind_ok, cmpR_map (f := fun e : NE => e.1) fun _ _ => rfl, R.bind_ok, fitN_ok (by rw [List.length_map]; exact h)]
theorem for_entry (nm : Str) : ∀ net : List NE, forR (T_entry_of_b1 nm) net () = .ok (match net.find? (fun e => decide (e.1 = nm)) with | some e => .rt e | none => .nx ())
  | [] => rfl
  | e :: net => by
    rw [forR, T_entry_of_b1]
    by_cases h : e.1 = nm
    · simp [h]
    · simp only [h, decide_false, R.bind_ok, Bool.false_eq_true, if_false, TF.thn_nx]
      rw [for_entry nm net, List.find?_cons_of_neg (by simpa using h)]
theorem T_entry_of_eq (net : List NE) (nm : Str) : T_entry_of net nm = match net.find? (fun e => decide (e.1 = nm)) with | some e => .ok e | none => .ex "NoName" := by
  unfold T_entry_of
  rw [R.bind_ok, for_entry]
  cases net.find? (fun e => decide (e.1 = nm)) <;> rfl
theorem find_mem {net : List NE} {nm : Str} (h : nm ∈ net.map (·.1)) : ∃ e ∈ net, e.1 = nm ∧ net.find? (fun e => decide (e.1 = nm)) = some e := by
  cases hf : net.find? (fun e => decide (e.1 = nm)) with
  | some e => exact ⟨e, List.mem_of_find?_eq_some hf, by simpa using List.find?_some hf, rfl⟩
  | none =>
    rw [List.find?_eq_none] at hf
    obtain ⟨e, he, rfl⟩ := List.mem_map.mp h
    exact ((hf e he) (by simp)).elim
theorem find_not {net : List NE} {nm : Str} (h : nm ∉ net.map (·.1)) : net.find? (fun e => decide (e.1 = nm)) = none := by
  rw [List.find?_eq_none]
  intro e he hc
  exact h (List.mem_map.mpr ⟨e, he, by simpa using hc⟩)
def valsOf (net : List NE) (nm : Str) : List Str := match net.find? (fun e => decide (e.1 = nm)) with | some e => e.2.1 | none => []
theorem T_values_of_eq {net : List NE} {nm : Str} (h : nm ∈ net.map (·.1)) : T_values_of net nm = .ok (valsOf net nm) := by
  obtain ⟨e, _, _, hf⟩ := find_mem h
  unfold T_values_of valsOf
  rw [T_entry_of_eq, hf]
  rfl
theorem T_values_of_ex {net : List NE} {nm : Str} (h : nm ∉ net.map (·.1)) : T_values_of net nm = .ex "NoName" := by
  unfold T_values_of
  rw [T_entry_of_eq, find_not h]
  rfl
theorem foldU {α : Type} {f : Unit → α → R Unit} {p : α → Bool} {c : Str} : ∀ l : List α, (∀ a ∈ l, f () a = if p a then .ok () else .ex c) → foldR f l () = if l.all p then .ok () else .ex c
  | [], _ => rfl
  | a :: l, h => by
    rw [foldR, h a (by simp), List.all_cons]
    cases p a with
    | true =>
      simp only [if_true, R.bind_ok, Bool.true_and]
      exact foldU l fun b hb => h b (by simp [hb])
    | false => rfl
theorem once_go (all : List Str) : ∀ (suf pre : List Str), all = pre ++ suf → pre.Nodup → foldR (T_once_each_b1 all) ((suf.zipIdx pre.length).map fun p => ((p.2 : Int), p.1)) () = if all.Nodup then .ok () else .ex "Twice"
  | [], pre, h, hp => by
    rw [List.append_nil] at h
    subst h
    rw [if_pos hp]
    rfl
  | x :: suf, pre, h, hp => by
    rw [List.zipIdx_cons, List.map_cons, foldR, T_once_each_b1]
    have e : cutL all none (some ((pre.length : Nat) : Int)) = pre := by
      rw [cutL_upto, h, List.take_left]
    simp only [e]
    by_cases hx : x ∈ pre
    · rw [if_neg]
      · simp [hx]
      · rw [h, List.nodup_append]
        intro z
        exact z.2.2 x hx x (by simp) rfl
    · simp only [hx, decide_false, R.bind_ok, Bool.false_eq_true, if_false]
      have := once_go all suf (pre ++ [x]) (by rw [h]; simp) (by
        rw [List.nodup_append]
        refine ⟨hp, by simp, fun a ha b hb => ?_⟩
        rw [List.mem_singleton] at hb
        subst hb
        exact fun z => hx (z ▸ ha))
      rw [List.length_append, List.length_singleton] at this
      exact this
theorem T_once_each_eq (l : List Str) : T_once_each l = if l.Nodup then .ok () else .ex "Twice" := by
  unfold T_once_each
  simp only [R.bind_ok]
  have := once_go l l [] rfl (by simp)
  unfold enumN
  rw [show ([] : List Str).length = 0 from rfl] at this
  rw [this]
  split <;> rfl
def lookV (vs : List Str) : R Unit := if vs.length < 2 ∨ 4 < vs.length then .ex "WrongSize" else if ¬ vs.all isW = true then .ex "NoWord" else if ¬ vs.Nodup then .ex "Twice" else .ok ()
theorem T_look_at_values_eq {vs : List Str} (h : ∀ v ∈ vs, v.length ≤ sizeLine) : T_look_at_values vs = lookV vs := by
  unfold T_look_at_values lookV
  by_cases h1 : vs.length < 2 ∨ 4 < vs.length
  · have : (decide ((vs.length : Int) < 2) || decide ((4 : Int) < (vs.length : Int))) = true := by simp; omega
    rw [if_pos h1, this]
    rfl
  · have : (decide ((vs.length : Int) < 2) || decide ((4 : Int) < (vs.length : Int))) = false := by simp; omega
    rw [if_neg h1, this]
    simp only [R.bind_ok, Bool.false_eq_true, if_false]
    rw [foldU (p := isW) (c := "NoWord") vs fun v hv => by
      unfold T_look_at_values_b1
      rw [T_is_word_eq (h v hv)]
      cases isW v <;> rfl]
    by_cases h2 : vs.all isW = true
    · rw [if_pos h2, if_neg (by simpa using h2), T_once_each_eq]
      by_cases h3 : vs.Nodup
      · rw [if_pos h3, if_neg (by simpa using h3)]; rfl
      · rw [if_neg h3, if_pos h3]; rfl
    · rw [if_neg h2, if_pos h2]; rfl
def lookE (ns es : List Str) : R Unit := if 3 < es.length then .ex "WrongSize" else if ¬ (es.all fun e => decide (e ∈ ns)) = true then .ex "NoElder" else if ¬ es.Nodup then .ex "Twice" else .ok ()
theorem T_look_at_elders_eq {net : List NE} {es : List Str} (h : net.length ≤ sizeLine) : T_look_at_elders net es = lookE (net.map (·.1)) es := by
  unfold T_look_at_elders lookE
  by_cases h1 : 3 < es.length
  · rw [if_pos h1, show decide ((3 : Int) < (es.length : Int)) = true by simp; omega]
    rfl
  · rw [if_neg h1, show decide ((3 : Int) < (es.length : Int)) = false by simp; omega]
    simp only [R.bind_ok, Bool.false_eq_true, if_false]
    rw [foldU (p := fun e => decide (e ∈ net.map (·.1))) (c := "NoElder") es fun v hv => by
      unfold T_look_at_elders_b1
      rw [T_names_of_eq h]
      by_cases hm : v ∈ net.map (·.1) <;> simp [hm]]
    by_cases h2 : (es.all fun e => decide (e ∈ net.map (·.1))) = true
    · rw [if_pos h2, if_neg (by simpa using h2), T_once_each_eq]
      by_cases h3 : es.Nodup
      · rw [if_pos h3, if_neg (by simpa using h3)]; rfl
      · rw [if_neg h3, if_pos h3]; rfl
    · rw [if_neg h2, if_pos h2]; rfl
/-! ### tables -/
def rowOk (size : Int) (t : Int) (row : List Int) : Bool := decide ((row.length : Int) = size) && row.all (fun x => decide (0 ≤ x)) && decide (row.sum = t)
def tabOk (table : List (List Int)) (choices size : Int) : Bool := decide ((table.length : Int) = choices) && table.all (rowOk size (table.headD []).sum) && decide (1 ≤ (table.headD []).sum) && decide ((table.headD []).sum ≤ 1000000000)
theorem minR_spec {l : List Int} (h : l ≠ []) : ∃ m, minR l = .ok m ∧ (m < 0 ↔ ¬ (l.all fun x => decide (0 ≤ x)) = true) := by
  unfold minR
  cases e : l.min? with
  | none => rw [List.min?_eq_none_iff] at e; exact (h e).elim
  | some m =>
    refine ⟨m, rfl, ?_⟩
    have hm := List.min?_eq_some_iff.mp e
    constructor
    · intro h0 hc
      rw [List.all_eq_true] at hc
      have := hc m hm.1
      simp at this
      omega
    · intro hc
      by_cases h0 : m < 0
      · exact h0
      · refine (hc ?_).elim
        rw [List.all_eq_true]
        intro x hx
        have := hm.2 x hx
        simp
        omega
theorem T_many_of_eq {table : List (List Int)} {choices size : Int} (hc : 1 ≤ choices) (hs : 1 ≤ size) : T_many_of table choices size = if tabOk table choices size then .ok (table.headD []).sum else .ex "WrongTable" := by
  unfold T_many_of tabOk
  by_cases h1 : (table.length : Int) = choices
  · cases table with
    | nil => simp at h1; omega
    | cons r0 rows =>
      have a0 : atR (r0 :: rows) 0 = .ok r0 := atR_nat (k := 0) rfl
      simp only [h1, decide_true, Bool.not_true, R.bind_ok, Bool.false_eq_true, if_false, a0, List.headD_cons, Bool.true_and]
      rw [foldU (p := rowOk size r0.sum) (c := "WrongTable") (r0 :: rows) fun row hr => by
        unfold T_many_of_b1 rowOk
        rw [a0]
        by_cases g1 : (row.length : Int) = size
        · obtain ⟨m, hm, hi⟩ := minR_spec (l := row) (fun z => by rw [z] at g1; simp at g1; omega)
          rw [hm]
          by_cases g2 : (row.all fun x => decide (0 ≤ x)) = true
          · have g3 : ¬ m < 0 := fun z => (hi.mp z) g2
            rw [g2]
            by_cases g4 : row.sum = r0.sum <;> simp [g1, g3, g4]
          · have g3 : m < 0 := hi.mpr g2
            rw [Bool.eq_false_iff.mpr g2]
            simp [g1, g3]
        · simp [g1]]
      by_cases h2 : (r0 :: rows).all (rowOk size r0.sum) = true
      · rw [if_pos h2, h2]
        by_cases h3 : 1 ≤ r0.sum
        · by_cases h4 : r0.sum ≤ 1000000000
          · simp [h3, h4, show ¬ r0.sum < 1 by omega, show ¬ 1000000000 < r0.sum by omega]
          · simp [h4, show 1000000000 < r0.sum by omega]
        · simp [h3, show r0.sum < 1 by omega]
      · rw [if_neg h2, Bool.eq_false_iff.mpr h2]
        rfl
  · simp [h1]
/-! ### made -/
def choicesF (net : List NE) (es : List Str) : Int := es.foldl (fun c e => c * ((valsOf net e).length : Int)) 1
def dueE (r : NRow) : NE := (r.1, r.2.1, r.2.2.1, (r.2.2.2.headD []).sum, r.2.2.2)
def madeStep (s : List NE × Int) (r : NRow) : R (List NE × Int) :=
  if ¬ isW r.1 = true then .ex "NoWord"
  else if r.1 ∈ s.1.map (·.1) then .ex "Twice"
  else (lookV r.2.1).bind fun _ => (lookE (s.1.map (·.1)) r.2.2.1).bind fun _ =>
  if 4096 < s.2 * (r.2.1.length : Int) then .ex "WrongSize"
  else if ¬ tabOk r.2.2.2 (choicesF s.1 r.2.2.1) (r.2.1.length : Int) = true then .ex "WrongTable"
  else .ok (s.1 ++ [dueE r], s.2 * (r.2.1.length : Int))
structure RowSz (r : NRow) : Prop where
  nm : r.1.length ≤ sizeLine
  vs : ∀ v ∈ r.2.1, v.length ≤ sizeLine
  tb : r.2.2.2.length ≤ sizeLine
structure NetSz (net : List NE) : Prop where
  len : net.length < sizeLine
  vs : ∀ e ∈ net, 1 ≤ e.2.1.length ∧ e.2.1.length ≤ 4
theorem valsOf_len {net : List NE} (h : NetSz net) {nm : Str} (hn : nm ∈ net.map (·.1)) : 1 ≤ (valsOf net nm).length ∧ (valsOf net nm).length ≤ 4 := by
  obtain ⟨e, he, _, hf⟩ := find_mem hn
  unfold valsOf
  rw [hf]
  exact h.vs e he
theorem fold_choices {net : List NE} {w : Int} (h : NetSz net) : ∀ (es : List Str) (c : Int), (∀ e ∈ es, e ∈ net.map (·.1)) → 1 ≤ c → foldR (T_made_b1 (net, w)) es c = .ok (es.foldl (fun c e => c * ((valsOf net e).length : Int)) c) ∧ 1 ≤ es.foldl (fun c e => c * ((valsOf net e).length : Int)) c
  | [], c, _, hc => ⟨rfl, hc⟩
  | e :: es, c, he, hc => by
    have hn := he e (by simp)
    have hl := valsOf_len h hn
    have m : IntMulOk c ((valsOf net e).length : Int) := mulOk_right (by omega) (by omega)
    have hc' : 1 ≤ c * ((valsOf net e).length : Int) := by
      have := Int.mul_le_mul hc (show (1 : Int) ≤ ((valsOf net e).length : Int) by omega) (by decide) (by omega)
      omega
    obtain ⟨i1, i2⟩ := fold_choices h es (c * ((valsOf net e).length : Int)) (fun x hx => he x (by simp [hx])) hc'
    rw [foldR, T_made_b1]
    simp only [T_values_of_eq hn, R.bind_ok, mulR_ok m]
    exact ⟨i1, i2⟩
theorem T_made_b2_eq {net : List NE} {w : Int} {r : NRow} (hr : RowSz r) (hn : NetSz net) (h1 : 1 ≤ w) (h2 : w ≤ 4096) : T_made_b2 (net, w) r = madeStep (net, w) r := by
  obtain ⟨nm, vs, es, tb⟩ := r
  obtain ⟨s1, s2, s3⟩ := hr
  simp only at s1 s2 s3
  unfold T_made_b2 madeStep
  simp only [T_is_word_eq s1, R.bind_ok, T_names_of_eq (Nat.le_of_lt hn.len), T_look_at_values_eq s2, T_look_at_elders_eq (Nat.le_of_lt hn.len)]
  by_cases g1 : isW nm = true
  · by_cases g2 : nm ∈ net.map (·.1)
    · simp only [g1, g2, decide_true, Bool.not_true, Bool.false_eq_true, if_false, if_true, R.bind_ok, R.bind_ex, not_true_eq_false]
    · simp only [g1, g2, decide_false, Bool.not_true, Bool.false_eq_true, if_false, R.bind_ok, not_true_eq_false]
      cases e1 : lookV vs with
      | bad => rfl
      | ex c => rfl
      | ok u =>
        cases e2 : lookE (net.map (·.1)) es with
        | bad => rfl
        | ex c => rfl
        | ok u2 =>
          have v1 : ¬ (vs.length < 2 ∨ 4 < vs.length) := fun z => by unfold lookV at e1; rw [if_pos z] at e1; cases e1
          have v2 : (es.all fun e => decide (e ∈ net.map (·.1))) = true := by
            unfold lookE at e2
            by_cases z1 : 3 < es.length
            · rw [if_pos z1] at e2; cases e2
            · rw [if_neg z1] at e2
              by_cases z2 : (es.all fun e => decide (e ∈ net.map (·.1))) = true
              · exact z2
              · rw [if_pos z2] at e2; cases e2
          have v3 : ∀ e ∈ es, e ∈ net.map (·.1) := fun e he => by simpa using List.all_eq_true.mp v2 e he
          have m : IntMulOk w (vs.length : Int) := mulOk_left (by omega) (by omega)
          obtain ⟨c1, c2⟩ := fold_choices (w := w) hn es 1 v3 (by decide)
          simp only [R.bind_ok, mulR_ok m]
          by_cases g3 : 4096 < w * (vs.length : Int)
          · simp only [g3, decide_true, if_true, R.bind_ex]
          · simp only [g3, decide_false, Bool.false_eq_true, if_false, R.bind_ok, c1]
            rw [T_many_of_eq c2 (by omega)]
            show R.bind (if tabOk tb (choicesF net es) (vs.length : Int) = true then _ else _) _ = _
            by_cases g4 : tabOk tb (choicesF net es) (vs.length : Int) = true
            · simp only [g4, if_true, R.bind_ok, not_true_eq_false, if_false]
              rw [cmpR_map (f := fun x : List Int => x) fun _ _ => rfl, List.map_id']
              simp only [R.bind_ok, fitN_ok s3]
              rw [catR_ok (by have := hn.len; simp; omega)]
              rfl
            · simp only [g4, if_false, R.bind_ex, not_false_eq_true, if_true]
              rfl
  · simp only [g1, not_false_eq_true, if_true, Bool.not_false, R.bind_ok, R.bind_ex, Bool.false_eq_true]
/-! ### texts by their signs -/
theorem cps_append (x y : Str) : (x ++ y).cps.toList = x.cps.toList ++ y.cps.toList := by
  show (x.cps ++ y.cps).toList = _
  rw [Array.toList_append]
theorem len_cps (x : Str) : x.length = x.cps.toList.length := by rw [Array.length_toList]; rfl
theorem len_append (x y : Str) : (x ++ y).length = x.length + y.length := by rw [len_cps, cps_append, List.length_append, ← len_cps, ← len_cps]
theorem cutS_cps (z : Str) (lo hi : Option Int) : (cutS z lo hi).cps.toList = cutL z.cps.toList lo hi := by
  unfold cutS cutL
  rw [len_cps]
theorem catS_ok {x y : Str} (h : x.length + y.length ≤ sizeLine) : catS x y = .ok (x ++ y) := if_pos h
theorem cutSR_ok {z : Str} {lo hi : Option Int} (h : z.length ≤ sizeLine) : cutSR z lo hi = .ok (cutS z lo hi) := if_pos h
def lt (i : Int) : Str := ⟨#[abc.getD i.toNat 0]⟩
theorem abc_len : abc.length = 26 := by decide +kernel
theorem abc_nodup : abc.Nodup := by decide +kernel
theorem letters_len : (Str.ofString "abcdefghijklmnopqrstuvwxyz").length = 26 := by decide +kernel
theorem atS_abc {i : Int} (h0 : 0 ≤ i) (h1 : i < 26) : atSR "abcdefghijklmnopqrstuvwxyz" i = .ok (lt i) := by
  unfold atSR
  rw [letters_len, if_pos (by decide)]
  have e : atI (Str.ofString "abcdefghijklmnopqrstuvwxyz").cps.toList i = some (abc.getD i.toNat 0) := by
    obtain ⟨n, rfl⟩ : ∃ n : Nat, i = n := ⟨i.toNat, by omega⟩
    refine atI_nat (xs := abc) ?_
    have : n < abc.length := by rw [abc_len]; omega
    simp [this]
  rw [e]
  rfl
theorem lt_mem {i : Int} (h0 : 0 ≤ i) (h1 : i < 26) : abc.getD i.toNat 0 ∈ abc := by
  have : i.toNat < abc.length := by rw [abc_len]; omega
  rw [List.getD_eq_getElem?_getD, List.getElem?_eq_getElem this]
  exact List.getElem_mem _
theorem lt_inj {i j : Int} (h0 : 0 ≤ i) (h1 : i < 26) (h2 : 0 ≤ j) (h3 : j < 26) (h : abc.getD i.toNat 0 = abc.getD j.toNat 0) : i = j := by
  have a : i.toNat < abc.length := by rw [abc_len]; omega
  have b : j.toNat < abc.length := by rw [abc_len]; omega
  rw [List.getD_eq_getElem?_getD, List.getElem?_eq_getElem a, List.getD_eq_getElem?_getD, List.getElem?_eq_getElem b] at h
  have := (List.getElem_inj abc_nodup).mp h
  omega
theorem isW_of {z : Str} {cs : List Nat} (e : z.cps.toList = cs) (h1 : 1 ≤ cs.length) (h2 : cs.length ≤ 8) (h3 : ∀ c ∈ cs, c ∈ abc) : isW z = true := by
  unfold isW
  rw [len_cps, e]
  simp only [Bool.and_eq_true, decide_eq_true_iff, List.all_eq_true]
  exact ⟨⟨h1, h2⟩, h3⟩
theorem isW_cps {z : Str} (h : isW z = true) : ∀ c ∈ z.cps.toList, c ∈ abc := by
  unfold isW at h
  simp only [Bool.and_eq_true, decide_eq_true_iff, List.all_eq_true] at h
  exact h.2
theorem abc_small : ∀ c ∈ abc, c < 128 := by decide +kernel
theorem isW_ok {z : Str} (h : isW z = true) (k : Nat) : plD k (.str z) = true := by
  rw [plD_str]
  unfold PyData.strOk
  rw [← Array.all_toList, List.all_eq_true]
  intro c hc
  have := abc_small c (isW_cps h c hc)
  simp
  omega
theorem isW_sz {z : Str} (h : isW z = true) : z.length ≤ sizeLine := by
  have := isW_len h
  rw [sizeLine_eq]
  omega
theorem rng_mem {a b x : Int} (h : x ∈ rng a b) : a ≤ x ∧ x < b := by
  unfold rng at h
  obtain ⟨i, hi, rfl⟩ := List.mem_map.mp h
  rw [List.mem_range] at hi
  omega
theorem rng_len (a b : Int) : (rng a b).length = (b - a).toNat := by unfold rng; rw [List.length_map, List.length_range]
theorem rng_nodup (a b : Int) : (rng a b).Nodup := by
  unfold rng
  rw [List.nodup_iff_pairwise_ne, List.pairwise_map]
  exact List.Pairwise.imp (fun h z => h (by omega)) (List.nodup_iff_pairwise_ne.mp List.nodup_range)
theorem nodup_map_of {α β : Type} {f : α → β} {l : List α} (hl : l.Nodup) (hf : ∀ a ∈ l, ∀ b ∈ l, f a = f b → a = b) : (l.map f).Nodup := by
  rw [List.nodup_iff_pairwise_ne] at hl ⊢
  rw [List.pairwise_map]
  exact List.Pairwise.imp_of_mem (fun ha hb h z => h (hf _ ha _ hb z)) hl
/-- words by a place and a stem -/
def wordAt (st : List Nat) (at_ : Nat) (c : Nat) : Str := ⟨(st.take at_ ++ [c] ++ st.drop at_).toArray⟩
theorem wordAt_inj {st : List Nat} {k : Nat} {c d : Nat} (hk : k ≤ st.length) (h : wordAt st k c = wordAt st k d) : c = d := by
  have h1 : st.take k ++ [c] ++ st.drop k = st.take k ++ [d] ++ st.drop k := by
    have := congrArg (fun z : Str => z.cps.toList) h
    simpa [wordAt] using this
  rw [List.append_assoc, List.append_assoc] at h1
  have h2 := List.append_cancel_left h1
  simpa using h2
theorem joinL_nil : ∀ ps : List (List Nat), TL.joinL [] ps = ps.flatten
  | [] => rfl
  | [p] => by simp [TL.joinL]
  | p :: q :: r => by
    show p ++ ([] ++ TL.joinL [] (q :: r)) = _
    rw [joinL_nil (q :: r)]
    simp
theorem join_cps (ps : List Str) : (Txt.join "" ps).cps.toList = (ps.map (·.cps.toList)).flatten := by
  have h : Txt.join "" ps = Str.join "" ps := StrLaws.glued_eq_join _ _
  rw [h]
  have := TL.tl_join "" ps
  rw [show TL.tl ("" : Str) = [] from rfl, joinL_nil] at this
  exact this
theorem stem_ok (f : Int → Int) (m : Int) (h0 : 0 ≤ m) (h1 : m ≤ 7) : ∃ (ss : List Str) (st : Str), cmpR (fun _ => R.ok true) (fun a => atSR "abcdefghijklmnopqrstuvwxyz" (f a % 26)) (rng 0 m) = .ok ss ∧ ss.length ≤ sizeLine ∧ joinR "" ss = .ok st ∧ st.length = m.toNat ∧ ∀ c ∈ st.cps.toList, c ∈ abc := by
  have e := cmpR_map (g := fun a => atSR "abcdefghijklmnopqrstuvwxyz" (f a % 26)) (f := fun a => lt (f a % 26)) (l := rng 0 m) fun a _ => atS_abc (Int.emod_nonneg _ (by decide)) (Int.emod_lt_of_pos _ (by decide))
  have cp : ∀ l : List Int, ((l.map fun a => lt (f a % 26)).map (·.cps.toList)).flatten = l.map fun a => abc.getD (f a % 26).toNat 0 := fun l => by
    induction l with
    | nil => rfl
    | cons a l ih => rw [List.map_cons, List.map_cons, List.flatten_cons, ih]; rfl
  have sl : ∀ l : List Int, (((l.map fun a => lt (f a % 26)).map (·.length)).sum) = l.length := fun l => by
    induction l with
    | nil => rfl
    | cons a l ih => rw [List.map_cons, List.map_cons, List.sum_cons, ih]; show 1 + l.length = _; simp; omega
  refine ⟨_, Txt.join "" ((rng 0 m).map fun a => lt (f a % 26)), e, ?_, ?_, ?_, ?_⟩
  · rw [List.length_map, rng_len, sizeLine_eq]; omega
  · unfold joinR
    rw [if_pos]
    rw [sl, List.length_map, rng_len]
    show _ + _ * 0 ≤ _
    omega
  · rw [len_cps, join_cps, cp, List.length_map, rng_len]
    omega
  · rw [join_cps, cp]
    intro c hc
    obtain ⟨a, _, rfl⟩ := List.mem_map.mp hc
    exact lt_mem (Int.emod_nonneg _ (by decide)) (Int.emod_lt_of_pos _ (by decide))
theorem word_ok {st : Str} {at_ j : Int} (hs : st.length ≤ 7) (ha : ∀ c ∈ st.cps.toList, c ∈ abc) (a0 : 0 ≤ at_) (a1 : at_ ≤ st.length) (j0 : 0 ≤ j) (j1 : j < 26) :
    (((cutSR st none (some at_)).bind fun x => (atSR "abcdefghijklmnopqrstuvwxyz" j).bind fun y => catS x y).bind fun x => (cutSR st (some at_) none).bind fun y => catS x y) = .ok (wordAt st.cps.toList at_.toNat (abc.getD j.toNat 0)) ∧ isW (wordAt st.cps.toList at_.toNat (abc.getD j.toNat 0)) = true := by
  have z : st.length ≤ sizeLine := by rw [sizeLine_eq]; omega
  have e1 : (cutS st none (some at_)).cps.toList = st.cps.toList.take at_.toNat := by rw [cutS_cps, cutL_take _ a0]
  have e2 : (cutS st (some at_) none).cps.toList = st.cps.toList.drop at_.toNat := by rw [cutS_cps, cutL_drop _ a0]
  have l1 : (cutS st none (some at_)).length ≤ 7 := by rw [len_cps, e1, List.length_take]; rw [len_cps] at hs; omega
  have l2 : (cutS st (some at_) none).length ≤ 7 := by rw [len_cps, e2, List.length_drop]; rw [len_cps] at hs; omega
  have l3 : (lt j).length = 1 := rfl
  constructor
  · rw [cutSR_ok z, cutSR_ok z, atS_abc j0 j1]
    simp only [R.bind_ok]
    rw [catS_ok (by rw [l3, sizeLine_eq]; omega), R.bind_ok, catS_ok (by rw [len_append, l3, sizeLine_eq]; omega)]
    congr 1
    refine str_ext ?_
    rw [cps_append, cps_append, e1, e2]
    rfl
  · refine isW_of (cs := st.cps.toList.take at_.toNat ++ [abc.getD j.toNat 0] ++ st.cps.toList.drop at_.toNat) rfl ?_ ?_ ?_
    · simp only [List.length_append, List.length_singleton]; omega
    · simp only [List.length_append, List.length_singleton, List.length_take, List.length_drop]
      rw [len_cps] at hs
      omega
    · intro c hc
      simp only [List.mem_append, List.mem_singleton] at hc
      rcases hc with (h | h) | h
      · exact ha c (List.mem_of_mem_take h)
      · subst h; exact lt_mem j0 j1
      · exact ha c (List.mem_of_mem_drop h)
theorem mod26_inj {x i j : Int} (h0 : 0 ≤ i) (h1 : i < 26) (h2 : 0 ≤ j) (h3 : j < 26) (h : (x + 3 * i) % 26 = (x + 3 * j) % 26) : i = j := by omega
/-! ### folds of made -/
def waysF (w : Int) (rs : List NRow) : Int := rs.foldl (fun w r => w * (r.2.1.length : Int)) w
def goodRows : List NE → Int → List NRow → Prop
  | _, _, [] => True
  | net, w, r :: rs => RowSz r ∧ madeStep (net, w) r = .ok (net ++ [dueE r], w * (r.2.1.length : Int)) ∧ goodRows (net ++ [dueE r]) (w * (r.2.1.length : Int)) rs
theorem lookV_ok {vs : List Str} {u : Unit} (h : lookV vs = .ok u) : 2 ≤ vs.length ∧ vs.length ≤ 4 := by
  unfold lookV at h
  by_cases z : vs.length < 2 ∨ 4 < vs.length
  · rw [if_pos z] at h; cases h
  · omega
theorem step_ok {net net' : List NE} {w w' : Int} {r : NRow} (h : madeStep (net, w) r = .ok (net', w')) : 2 ≤ r.2.1.length ∧ r.2.1.length ≤ 4 ∧ w * (r.2.1.length : Int) ≤ 4096 := by
  unfold madeStep at h
  by_cases h1 : isW r.1 = true
  · rw [if_neg (by simpa using h1)] at h
    by_cases h2 : r.1 ∈ net.map (·.1)
    · rw [if_pos h2] at h; cases h
    · rw [if_neg h2] at h
      cases e1 : lookV r.2.1 with
      | bad => rw [e1] at h; cases h
      | ex c => rw [e1] at h; cases h
      | ok u =>
        rw [e1, R.bind_ok] at h
        cases e2 : lookE (net.map (·.1)) r.2.2.1 with
        | bad => rw [e2] at h; cases h
        | ex c => rw [e2] at h; cases h
        | ok u2 =>
          rw [e2, R.bind_ok] at h
          by_cases h3 : 4096 < w * (r.2.1.length : Int)
          · rw [if_pos h3] at h; cases h
          · exact ⟨(lookV_ok e1).1, (lookV_ok e1).2, by omega⟩
  · rw [if_pos h1] at h; cases h
theorem fold_made : ∀ (pre : List NRow) (net : List NE) (w : Int) (post : List NRow), goodRows net w pre → NetSz net → net.length + pre.length < sizeLine → 1 ≤ w → w ≤ 4096 →
    foldR T_made_b2 (pre ++ post) (net, w) = foldR T_made_b2 post (net ++ pre.map dueE, waysF w pre) ∧ NetSz (net ++ pre.map dueE) ∧ 1 ≤ waysF w pre ∧ waysF w pre ≤ 4096
  | [], net, w, post, _, hn, _, h1, h2 => by
    simp only [List.nil_append, List.map_nil, List.append_nil]
    exact ⟨rfl, hn, h1, h2⟩
  | r :: pre, net, w, post, ⟨g1, g2, g3⟩, hn, hl, h1, h2 => by
    obtain ⟨a, b, c⟩ := step_ok g2
    simp only [List.length_cons] at hl
    have hw : 1 ≤ w * (r.2.1.length : Int) := by
      have := Int.mul_le_mul h1 (show (1 : Int) ≤ (r.2.1.length : Int) by omega) (by decide) (by omega)
      omega
    have hn' : NetSz (net ++ [dueE r]) := ⟨by simp; omega, fun e he => by
      rw [List.mem_append, List.mem_singleton] at he
      rcases he with he | rfl
      · exact hn.vs e he
      · show 1 ≤ r.2.1.length ∧ r.2.1.length ≤ 4
        omega⟩
    obtain ⟨i1, i2, i3, i4⟩ := fold_made pre (net ++ [dueE r]) (w * (r.2.1.length : Int)) post g3 hn' (by simp; omega) hw c
    rw [List.cons_append, foldR, T_made_b2_eq g1 hn h1 h2, g2, R.bind_ok]
    have e : net ++ (r :: pre).map dueE = net ++ [dueE r] ++ pre.map dueE := by simp
    rw [e]
    exact ⟨i1, i2, i3, i4⟩
theorem netSz_nil : NetSz [] := ⟨by decide, fun _ h => nomatch h⟩
theorem T_made_size {rows : List NRow} (h : rows.length < 1 ∨ 10 < rows.length) : T_made rows = .ex "WrongSize" := by
  unfold T_made
  rw [show (decide ((rows.length : Int) < 1) || decide ((10 : Int) < (rows.length : Int))) = true by simp; omega]
  rfl
theorem T_made_fold {rows : List NRow} (h1 : 1 ≤ rows.length) (h2 : rows.length ≤ 10) : T_made rows = (foldR T_made_b2 rows ([], 1)).bind fun y => .ok y.1 := by
  unfold T_made
  rw [show (decide ((rows.length : Int) < 1) || decide ((10 : Int) < (rows.length : Int))) = false by simp; omega]
  simp only [R.bind_ok, Bool.false_eq_true, if_false]
theorem T_made_ok {rows : List NRow} (h1 : 1 ≤ rows.length) (h2 : rows.length ≤ 10) (g : goodRows [] 1 rows) : T_made rows = .ok (rows.map dueE) := by
  rw [T_made_fold h1 h2]
  have := (fold_made rows [] 1 [] g netSz_nil (by rw [sizeLine_eq]; simp; omega) (by decide) (by decide)).1
  rw [List.append_nil] at this
  rw [this]
  rfl
theorem T_made_ex {pre post : List NRow} {r : NRow} {c : Str} (h2 : (pre ++ r :: post).length ≤ 10) (g : goodRows [] 1 pre) (hr : RowSz r) (hs : madeStep (pre.map dueE, waysF 1 pre) r = .ex c) : T_made (pre ++ r :: post) = .ex c := by
  rw [T_made_fold (by simp; omega) h2]
  have hl : pre.length ≤ 10 := by simp at h2; omega
  obtain ⟨i1, i2, i3, i4⟩ := fold_made pre [] 1 (r :: post) g netSz_nil (by rw [sizeLine_eq]; simp; omega) (by decide) (by decide)
  rw [i1, foldR, T_made_b2_eq hr i2 i3 i4, List.nil_append, hs]
  rfl
theorem goodRows_snoc : ∀ (pre : List NRow) (net : List NE) (w : Int) (r : NRow), goodRows net w pre → RowSz r → madeStep (net ++ pre.map dueE, waysF w pre) r = .ok (net ++ pre.map dueE ++ [dueE r], waysF w pre * (r.2.1.length : Int)) → goodRows net w (pre ++ [r])
  | [], net, w, r, _, hr, h => by
    simp only [List.map_nil, List.append_nil] at h
    exact ⟨hr, h, trivial⟩
  | p :: pre, net, w, r, ⟨g1, g2, g3⟩, hr, h => by
    refine ⟨g1, g2, goodRows_snoc pre _ _ r g3 hr ?_⟩
    have e : net ++ (p :: pre).map dueE = net ++ [dueE p] ++ pre.map dueE := by simp
    rw [e] at h
    exact h
theorem goodRows_take : ∀ (pre : List NRow) (net : List NE) (w : Int) (k : Nat), goodRows net w pre → goodRows net w (pre.take k)
  | [], _, _, k, _ => by rw [List.take_nil]; trivial
  | p :: pre, net, w, 0, _ => trivial
  | p :: pre, net, w, k + 1, ⟨g1, g2, g3⟩ => ⟨g1, g2, goodRows_take pre _ _ k g3⟩
theorem goodRows_append : ∀ (pre post : List NRow) (net : List NE) (w : Int), goodRows net w (pre ++ post) ↔ goodRows net w pre ∧ goodRows (net ++ pre.map dueE) (waysF w pre) post
  | [], post, net, w => by
    simp only [List.map_nil, List.append_nil, List.nil_append]
    exact ⟨fun h => ⟨trivial, h⟩, fun h => h.2⟩
  | p :: pre, post, net, w => by
    have e : net ++ (p :: pre).map dueE = net ++ [dueE p] ++ pre.map dueE := by simp
    rw [e]
    show (_ ∧ _ ∧ goodRows _ _ (pre ++ post)) ↔ (_ ∧ _ ∧ goodRows _ _ pre) ∧ goodRows _ (waysF (w * (p.2.1.length : Int)) pre) post
    rw [goodRows_append pre post]
    constructor
    · exact fun ⟨a, b, c, d⟩ => ⟨⟨a, b, c⟩, d⟩
    · exact fun ⟨⟨a, b, c⟩, d⟩ => ⟨a, b, c, d⟩
/-- what a good step needs -/
structure GoodR (net : List NE) (w : Int) (r : NRow) : Prop where
  nm : isW r.1 = true
  new : r.1 ∉ net.map (·.1)
  vl : 2 ≤ r.2.1.length ∧ r.2.1.length ≤ 4
  vw : r.2.1.all isW = true
  vn : r.2.1.Nodup
  el : r.2.2.1.length ≤ 3
  em : (r.2.2.1.all fun e => decide (e ∈ net.map (·.1))) = true
  en : r.2.2.1.Nodup
  ws : w * (r.2.1.length : Int) ≤ 4096
  tb : tabOk r.2.2.2 (choicesF net r.2.2.1) (r.2.1.length : Int) = true
theorem GoodR.v {net : List NE} {w : Int} {r : NRow} (g : GoodR net w r) : lookV r.2.1 = .ok () := by
  unfold lookV
  rw [if_neg (by have := g.vl; omega), if_neg (by simpa using g.vw), if_neg (by simpa using g.vn)]
theorem GoodR.e {net : List NE} {w : Int} {r : NRow} (g : GoodR net w r) : lookE (net.map (·.1)) r.2.2.1 = .ok () := by
  unfold lookE
  rw [if_neg (by have := g.el; omega), if_neg (by simpa using g.em), if_neg (by simpa using g.en)]
theorem GoodR.step {net : List NE} {w : Int} {r : NRow} (g : GoodR net w r) : madeStep (net, w) r = .ok (net ++ [dueE r], w * (r.2.1.length : Int)) := by
  unfold madeStep
  rw [if_neg (by simpa using g.nm), if_neg g.new, g.v, R.bind_ok, g.e, R.bind_ok, if_neg (by have := g.ws; simp only; omega), if_neg (by simpa using g.tb)]
/-! ### copies, dues, likes -/
theorem cmpR_id {α : Type} (l : List α) : cmpR (fun _ => R.ok true) (fun x : α => R.ok x) l = .ok l := by
  have := cmpR_map (g := fun x : α => R.ok x) (f := fun x : α => x) (l := l) fun _ _ => rfl
  rw [List.map_id'] at this
  exact this
theorem T_law_copied_eq {rows : List NRow} (h : rows.length ≤ sizeLine) (ht : ∀ r ∈ rows, r.2.2.2.length ≤ sizeLine) : T_law_copied rows = .ok rows := by
  unfold T_law_copied
  rw [R.bind_ok, cmpR_map (f := fun r : NRow => r) fun r hr => by
    simp only [R.bind_ok, cmpR_id, fitN_ok (ht r hr)], R.bind_ok, List.map_id', fitN_ok h]
theorem T_law_due_eq {rows : List NRow} (h : rows.length ≤ sizeLine) (ht : ∀ r ∈ rows, r.2.2.2.length ≤ sizeLine ∧ r.2.2.2 ≠ []) : T_law_due rows = .ok (rows.map dueE) := by
  unfold T_law_due
  simp only [R.bind_ok]
  have go : ∀ (rs : List NRow) (acc : List NE), acc.length + rs.length ≤ sizeLine → (∀ r ∈ rs, r.2.2.2.length ≤ sizeLine ∧ r.2.2.2 ≠ []) → foldR T_law_due_b1 rs acc = .ok (acc ++ rs.map dueE) := fun rs => by
    induction rs with
    | nil => intro acc _ _; rw [List.map_nil, List.append_nil]; rfl
    | cons r rs ih =>
      intro acc hl ht
      obtain ⟨h1, h2⟩ := ht r (by simp)
      rw [List.length_cons] at hl
      obtain ⟨nm, vs, es, tb⟩ := r
      cases tb with
      | nil => exact (h2 rfl).elim
      | cons t0 tb =>
        have a0 : atR (t0 :: tb) 0 = .ok t0 := atR_nat (k := 0) rfl
        have := ih (acc ++ [dueE (nm, vs, es, t0 :: tb)]) (by simp; omega) fun r hr => ht r (by simp [hr])
        rw [foldR, T_law_due_b1]
        simp only [R.bind_ok, cmpR_id, fitN_ok h1, a0]
        rw [appR_ok (by omega), R.bind_ok, R.bind_ok]
        rw [List.map_cons, ← List.append_cons] at *
        exact this
  have := go rows [] (by simpa using h) ht
  rw [List.nil_append] at this
  rw [this]
  rfl
def alD : Nat → D → Bool
  | _, .int _ => true
  | _, .str _ => true
  | n + 1, .tup ds => ds.all (alD n)
  | n + 1, .lst ds => ds.all (alD n)
  | _, _ => false
theorem zip_self_mem {α : Type} : ∀ {l : List α} {p : α × α}, p ∈ l.zip l → p.1 ∈ l ∧ p.2 = p.1
  | [], _, h => nomatch h
  | a :: l, p, h => by
    rw [List.zip_cons_cons, List.mem_cons] at h
    rcases h with rfl | h
    · exact ⟨by simp, rfl⟩
    · have := zip_self_mem h
      exact ⟨by simp [this.1], this.2⟩
theorem for_alike {TR : D → D → R Bool} : ∀ l : List (D × D), (∀ p ∈ l, TR p.1 p.2 = .ok true) → forR (T_law_alike_b1 TR) l () = .ok (.nx ())
  | [], _ => rfl
  | p :: l, h => by
    rw [forR, T_law_alike_b1, h p (by simp)]
    simp only [R.bind_ok, Bool.not_true, Bool.false_eq_true, if_false, TF.thn_nx]
    exact for_alike l fun q hq => h q (by simp [hq])
theorem alike_int (TR : D → D → R Bool) (i : Int) : B_law_alike TR (.int i) (.int i) = .ok true := by
  have e : eqAR (.int i) (.int i) = .ok true := by unfold eqAR; rw [eqD_int]; simp [ofO]
  unfold B_law_alike eA
  simp only [e, show isiR "bool" (.int i) = .ok false from rfl, show isiR "str" (.int i) = .ok false from rfl, show isiR "int" (.int i) = .ok true from rfl, show isi2R "int" "str" (.int i) = .ok true from rfl, R.bind_ok, if_true, Bool.false_eq_true, if_false, decide_true, Bool.not_true]
theorem alike_str (TR : D → D → R Bool) (i : Str) : B_law_alike TR (.str i) (.str i) = .ok true := by
  have e : eqAR (.str i) (.str i) = .ok true := by unfold eqAR; rw [eqD_str]; simp [ofO]
  unfold B_law_alike eA
  simp only [e, show isiR "bool" (.str i) = .ok false from rfl, show isiR "str" (.str i) = .ok true from rfl, show isi2R "int" "str" (.str i) = .ok true from rfl, R.bind_ok, if_true, Bool.false_eq_true, if_false, decide_true, Bool.not_true]
theorem alike_tup (TR : D → D → R Bool) (ds : List D) (h : ∀ d ∈ ds, TR d d = .ok true) : B_law_alike TR (.tup ds) (.tup ds) = .ok true := by
  have f := for_alike (TR := TR) (ds.zip ds) fun p hp => by
    obtain ⟨a, b⟩ := zip_self_mem hp
    rw [b]
    exact h _ a
  unfold B_law_alike eA
  simp only [show isiR "bool" (.tup ds) = .ok false from rfl, show isiR "str" (.tup ds) = .ok false from rfl, show isiR "int" (.tup ds) = .ok false from rfl, show isiR "list" (.tup ds) = .ok false from rfl, show isi2R "list" "tuple" (.tup ds) = .ok true from rfl, show zipAR (.tup ds) (.tup ds) = .ok (ds.zip ds) from rfl, show lenA (.tup ds) = .ok (ds.length : Int) from rfl, f, R.bind_ok, if_true, Bool.false_eq_true, if_false, decide_true, Bool.not_true, TF.thx_nx]
theorem alike_lst (TR : D → D → R Bool) (ds : List D) (h : ∀ d ∈ ds, TR d d = .ok true) : B_law_alike TR (.lst ds) (.lst ds) = .ok true := by
  have f := for_alike (TR := TR) (ds.zip ds) fun p hp => by
    obtain ⟨a, b⟩ := zip_self_mem hp
    rw [b]
    exact h _ a
  unfold B_law_alike eA
  simp only [show isiR "bool" (.lst ds) = .ok false from rfl, show isiR "str" (.lst ds) = .ok false from rfl, show isiR "int" (.lst ds) = .ok false from rfl, show isiR "list" (.lst ds) = .ok true from rfl, show isi2R "list" "tuple" (.lst ds) = .ok true from rfl, show zipAR (.lst ds) (.lst ds) = .ok (ds.zip ds) from rfl, show lenA (.lst ds) = .ok (ds.length : Int) from rfl, f, R.bind_ok, if_true, Bool.false_eq_true, if_false, decide_true, Bool.not_true, TF.thx_nx]
theorem alike_self : ∀ (k : Nat) (d : D), alD k d = true → T_law_alike (k + 1) d d = .ok true := fun k => by
  induction k with
  | zero =>
    intro d h
    cases d with
    | int i => exact alike_int _ i
    | str i => exact alike_str _ i
    | _ => simp [alD] at h
  | succ k ih =>
    intro d h
    cases d with
    | int i => exact alike_int _ i
    | str i => exact alike_str _ i
    | tup ds => exact alike_tup _ ds fun d hd => ih d (List.all_eq_true.mp (show ds.all (alD k) = true from h) d hd)
    | lst ds => exact alike_lst _ ds fun d hd => ih d (List.all_eq_true.mp (show ds.all (alD k) = true from h) d hd)
    | _ => simp [alD] at h
theorem alD_T {α : Type} {f : α → D} {k : Nat} {l : List α} (h : ∀ x ∈ l, alD k (f x) = true) : alD (k + 1) (eT f l) = true := by
  show (l.map f).all (alD k) = true
  rw [List.all_eq_true]
  intro d hd
  obtain ⟨x, hx, rfl⟩ := List.mem_map.mp hd
  exact h x hx
theorem alD_int (k : Nat) (i : Int) : alD k (.int i) = true := by cases k <;> rfl
theorem alD_str (k : Nat) (i : Str) : alD k (.str i) = true := by cases k <;> rfl
abbrev eNet : List NE → D := eT (e5 D.str (eT D.str) (eT D.str) D.int (eT (eT D.int)))
theorem alD_net (net : List NE) : alD 7 (eNet net) = true := by
  refine alD_T fun e _ => ?_
  show [D.str e.1, eT D.str e.2.1, eT D.str e.2.2.1, D.int e.2.2.2.1, eT (eT D.int) e.2.2.2.2].all (alD 5) = true
  simp only [List.all_cons, List.all_nil, Bool.and_true, Bool.and_eq_true]
  exact ⟨alD_str _ _, alD_T fun _ _ => alD_str _ _, alD_T fun _ _ => alD_str _ _, alD_int _ _, alD_T fun _ _ => alD_T fun _ _ => alD_int _ _⟩
theorem alike_net (net : List NE) : T_law_alike 8 (eNet net) (eNet net) = .ok true := alike_self 7 _ (alD_net net)
abbrev eRows : List NRow → D := eL (e4 D.str (eL D.str) (eL D.str) (eL (eL D.int)))
structure RowPl (r : NRow) : Prop where
  nm : plD 5 (.str r.1) = true
  vs : ∀ v ∈ r.2.1, plD 5 (.str v) = true
  es : ∀ v ∈ r.2.2.1, plD 5 (.str v) = true
theorem plD_any (k : Nat) (z : Str) (h : plD 5 (.str z) = true) : plD k (.str z) = true := by rw [plD_str] at *; exact h
theorem pl_rows {rows : List NRow} (h : ∀ r ∈ rows, RowPl r) : plD 20 (eRows rows) = true := by
  refine plL fun r hr => ?_
  show [D.str r.1, eL D.str r.2.1, eL D.str r.2.2.1, eL (eL D.int) r.2.2.2].all (plD 18) = true
  simp only [List.all_cons, List.all_nil, Bool.and_true, Bool.and_eq_true]
  obtain ⟨a, b, c⟩ := h r hr
  exact ⟨plD_any _ _ a, plL fun v hv => plD_any _ _ (b v hv), plL fun v hv => plD_any _ _ (c v hv), plL fun _ _ => plL fun _ _ => plI _ _⟩
theorem kin_size : T_law_kinds "WrongSize" = .ok ["WrongSize"] := by kernel_rfl
theorem kin_word : T_law_kinds "NoWord" = .ok ["NoWord"] := by kernel_rfl
theorem kin_twice : T_law_kinds "Twice" = .ok ["Twice"] := by kernel_rfl
theorem kin_elder : T_law_kinds "NoElder" = .ok ["NoElder"] := by kernel_rfl
theorem kin_table : T_law_kinds "WrongTable" = .ok ["WrongTable"] := by kernel_rfl
theorem tabOk_ne {table : List (List Int)} {a b : Int} (h : tabOk table a b = true) : table ≠ [] := by
  intro z
  subst z
  unfold tabOk at h
  simp at h
theorem step_tab {net : List NE} {w : Int} {r : NRow} {x : List NE × Int} (h : madeStep (net, w) r = .ok x) : r.2.2.2 ≠ [] := by
  unfold madeStep at h
  by_cases h1 : isW r.1 = true
  · rw [if_neg (by simpa using h1)] at h
    by_cases h2 : r.1 ∈ net.map (·.1)
    · rw [if_pos h2] at h; cases h
    · rw [if_neg h2] at h
      cases e1 : lookV r.2.1 with
      | bad => rw [e1] at h; cases h
      | ex c => rw [e1] at h; cases h
      | ok u =>
        rw [e1, R.bind_ok] at h
        cases e2 : lookE (net.map (·.1)) r.2.2.1 with
        | bad => rw [e2] at h; cases h
        | ex c => rw [e2] at h; cases h
        | ok u2 =>
          rw [e2, R.bind_ok] at h
          by_cases h3 : 4096 < w * (r.2.1.length : Int)
          · rw [if_pos h3] at h; cases h
          · rw [if_neg h3] at h
            by_cases h4 : tabOk r.2.2.2 (choicesF net r.2.2.1) (r.2.1.length : Int) = true
            · exact tabOk_ne h4
            · rw [if_pos h4] at h; cases h
  · rw [if_pos h1] at h; cases h
theorem good_tab : ∀ (rs : List NRow) (net : List NE) (w : Int), goodRows net w rs → ∀ r ∈ rs, r.2.2.2.length ≤ sizeLine ∧ r.2.2.2 ≠ []
  | [], _, _, _, _, h => nomatch h
  | p :: rs, net, w, ⟨g1, g2, g3⟩, r, h => by
    rw [List.mem_cons] at h
    rcases h with rfl | h
    · exact ⟨g1.tb, step_tab g2⟩
    · exact good_tab rs _ _ g3 r h
theorem bind_some {α β : Type} {x : R α} {f : α → R β} {r : R β} (P : α → Prop) (h : ∃ a, x = .ok a ∧ P a) (k : ∀ a, P a → f a = r) : x.bind f = r := by
  obtain ⟨a, e, p⟩ := h
  rw [e, R.bind_ok]
  exact k a p
end OD
set_option Elab.async false
set_option linter.all false
set_option maxRecDepth 100000
set_option maxHeartbeats 4000000
set_option synthInstance.maxSize 1000
set_option synthInstance.maxHeartbeats 400000
namespace OD
open PySem PySem.Spec PyProof.Rows L2 L2.VL
def G_law_words : List D → R Fl := (sSeq (sAsg 2 (eC (.str "abcdefghijklmnopqrstuvwxyz"))) (sSeq (sIf (tVal (eOp gEq (eOp gMod (eVar 0) (eC (.int 3))) (eC (.int 0)))) (sRet (eComp (iRng rng1 (aCons (eVar 1) aNil)) (tgName 3) tTrue (eOp gMulS (eIx (eVar 2) (eOp gMod (eOp gFdiv (eVar 0) (eC (.int 3))) (eC (.int 26)))) (eOp gAdd (eVar 3) (eC (.int 1)))))) sNil) (sSeq (sAsg 4 (eOp gMod (eOp gFdiv (eVar 0) (eC (.int 3))) (eC (.int 8)))) (sSeq (sAsg 5 (eM1 gJoin (eC (.str "")) (eComp (iRng rng1 (aCons (eVar 4) aNil)) (tgName 3) tTrue (eIx (eVar 2) (eOp gMod (eOp gAdd (eOp gFdiv (eVar 0) (eC (.int 24))) (eOp gMul (eOp gAdd (eVar 3) (eC (.int 1))) (eOp gAdd (eVar 3) (eC (.int 5))))) (eC (.int 26))))))) (sSeq (sAsg 6 (eOp gMod (eOp gFdiv (eVar 0) (eC (.int 48))) (eOp gAdd (eVar 4) (eC (.int 1))))) (sRet (eComp (iRng rng1 (aCons (eVar 1) aNil)) (tgName 3) tTrue (eOp gAdd (eOp gAdd (eSlS (eVar 5) pNo (pAt (eVar 6))) (eIx (eVar 2) (eOp gMod (eOp gAdd (eOp gFdiv (eVar 0) (eC (.int 624))) (eOp gMul (eC (.int 3)) (eVar 3))) (eC (.int 26))))) (eSlS (eVar 5) (pAt (eVar 6)) pNo)))))))))
def M_law_words : List D → R D := runFr 7 (G_law_words)
def T_law_words (v_cell_here : Int) (v_many : Int) : R (List Str) := ((R.ok ("abcdefghijklmnopqrstuvwxyz" : Str)).bind fun (v_letters : Str) => ((R.ok (decide ((v_cell_here % (3 : Int)) = (0 : Int)))).bind fun b => if b then (((R.ok v_many).bind rngR1).bind fun l => (cmpR (fun (a1 : Int) => (R.ok true)) (fun (a1 : Int) => ((atSR v_letters ((v_cell_here / (3 : Int)) % (26 : Int))).bind fun x => (R.ok (a1 + (1 : Int))).bind fun y => mulSR x y)) l).bind fitN) else ((R.ok ()).bind fun (_ : Unit) => R.ok ()).bind fun _ => ((R.ok ((v_cell_here / (3 : Int)) % (8 : Int))).bind fun (v_size : Int) => (((R.ok ("" : Str)).bind fun x => (((R.ok v_size).bind rngR1).bind fun l => (cmpR (fun (a2 : Int) => (R.ok true)) (fun (a2 : Int) => ((R.ok v_letters).bind fun x => (((R.ok (v_cell_here / (24 : Int))).bind fun x => (mulR (a2 + (1 : Int)) (a2 + (5 : Int))).bind fun y => R.ok (x + y)).bind fun x => R.ok (x % (26 : Int))).bind fun y => atSR x y)) l).bind fitN).bind fun y => joinR x y).bind fun (v_stem : Str) => ((modR (v_cell_here / (48 : Int)) (v_size + (1 : Int))).bind fun (v_at : Int) => (((R.ok v_many).bind rngR1).bind fun l => (cmpR (fun (a3 : Int) => (R.ok true)) (fun (a3 : Int) => (((cutSR v_stem none (some v_at)).bind fun x => (atSR v_letters (((v_cell_here / (624 : Int)) + ((3 : Int) * a3)) % (26 : Int))).bind fun y => catS x y).bind fun x => (cutSR v_stem (some v_at) none).bind fun y => catS x y)) l).bind fitN))))))
theorem sim_law_words (v_cell_here : Int) (v_many : Int) : Ref (M_law_words [D.int v_cell_here, D.int v_many]) ((T_law_words v_cell_here v_many).map (eL D.str)) := by
  unfold M_law_words
  exact run_xr (n := 7) (p := [some (D.int v_cell_here), some (D.int v_many), none, none, none, none, none]) (by unfold G_law_words T_law_words; exact (sx_seq (sn_asg (i := 2) (ea := D.str) (P := fun (v_letters : Str) => [some (D.int v_cell_here), some (D.int v_many), some (D.str v_letters), none, none, none, none]) (by exact (SP.se (ea := D.str) (x := ("abcdefghijklmnopqrstuvwxyz" : Str)) sp_c))) (fun (v_letters : Str) => (sx_ifT (by exact (SCp.sc (sc_val (sp_op (k := gEq) (d := D.bl (decide ((v_cell_here % (3 : Int)) = (0 : Int)))) rfl (sp_op (d := .int (v_cell_here % (3 : Int))) (g_modC v_cell_here 3) (sp_var (i := 0)) sp_c) sp_c)))) (sx_ret (by exact (se_comp (Pt := fun (a1 : Int) => [some (D.int v_cell_here), some (D.int v_many), some (D.str v_letters), some (D.int a1), none, none, none]) (si_rng1 (fs := aNil) (SP.se (ea := D.int) (x := v_many) (sp_var (i := 1)))) (TGs.le (p' := [some (D.int v_cell_here), some (D.int v_many), some (D.str v_letters), none, none, none, none]) ((show PLe [some (D.int v_cell_here), some (D.int v_many), some (D.str v_letters), none, none, none, none] _ by exact And.intro rfl (And.intro rfl (And.intro rfl (trivial))))) tg_name) (fun a1 => (by exact (SCp.sc sc_true))) (fun a1 => (by exact (se_op (k := gMulS) (ea := D.str) (eb := D.int) (ec := D.str) (h := fun x y => mulSR x y) (fun x y => k_mulS x y) (se_ixP (ec := D.str) (k_atS v_letters ((v_cell_here / (3 : Int)) % (26 : Int))) (sp_var (i := 2)) (sp_op (d := .int ((v_cell_here / (3 : Int)) % (26 : Int))) (g_modC (v_cell_here / (3 : Int)) 26) (sp_op (d := .int (v_cell_here / (3 : Int))) (g_divC v_cell_here 3) (sp_var (i := 0)) sp_c) sp_c)) (SP.se (ea := D.int) (x := (a1 + (1 : Int))) (sp_op (k := gAdd) (d := D.int (a1 + (1 : Int))) rfl (sp_var (i := 3)) sp_c)))))))) (sn_yield (P := fun (_ : Unit) => [some (D.int v_cell_here), some (D.int v_many), some (D.str v_letters), none, none, none, none]) sn_nil (fun (_ : Unit) => ()) (fun (_ : Unit) => by exact And.intro rfl (And.intro rfl (And.intro rfl (trivial))))) (fun _ => (sx_seq (sn_asg (i := 4) (ea := D.int) (P := fun (v_size : Int) => [some (D.int v_cell_here), some (D.int v_many), some (D.str v_letters), none, some (D.int v_size), none, none]) (by exact (SP.se (ea := D.int) (x := ((v_cell_here / (3 : Int)) % (8 : Int))) (sp_op (d := .int ((v_cell_here / (3 : Int)) % (8 : Int))) (g_modC (v_cell_here / (3 : Int)) 8) (sp_op (d := .int (v_cell_here / (3 : Int))) (g_divC v_cell_here 3) (sp_var (i := 0)) sp_c) sp_c)))) (fun (v_size : Int) => (sx_seq (sn_asg (i := 5) (ea := D.str) (P := fun (v_stem : Str) => [some (D.int v_cell_here), some (D.int v_many), some (D.str v_letters), none, some (D.int v_size), some (D.str v_stem), none]) (by exact (se_m1 (ec := D.str) (h := fun x y => joinR x y) (fun x y => k_joinL x y) (SP.se (ea := D.str) (x := ("" : Str)) sp_c) (se_comp (Pt := fun (a2 : Int) => [some (D.int v_cell_here), some (D.int v_many), some (D.str v_letters), some (D.int a2), some (D.int v_size), none, none]) (si_rng1 (fs := aNil) (SP.se (ea := D.int) (x := v_size) (sp_var (i := 4)))) (TGs.le (p' := [some (D.int v_cell_here), some (D.int v_many), some (D.str v_letters), none, some (D.int v_size), none, none]) ((show PLe [some (D.int v_cell_here), some (D.int v_many), some (D.str v_letters), none, some (D.int v_size), none, none] _ by exact And.intro rfl (And.intro rfl (And.intro rfl (And.intro rfl (trivial)))))) tg_name) (fun a2 => (by exact (SCp.sc sc_true))) (fun a2 => (by exact (se_ix (ea := D.str) (eb := D.int) (ec := D.str) (h := fun x y => atSR x y) (fun x y => k_atS x y) (SP.se (ea := D.str) (x := v_letters) (sp_var (i := 2))) (se_opC (ec := D.int) (h := fun x => R.ok (x % (26 : Int))) (se_op (k := gAdd) (ea := D.int) (eb := D.int) (ec := D.int) (h := fun (x : Int) (y : Int) => R.ok (x + y)) (fun x y => Ref.of rfl) (SP.se (ea := D.int) (x := (v_cell_here / (24 : Int))) (sp_op (d := .int (v_cell_here / (24 : Int))) (g_divC v_cell_here 24) (sp_var (i := 0)) sp_c)) (se_opP (k := gMul) (ec := D.int) (k_mul (a2 + (1 : Int)) (a2 + (5 : Int))) (sp_op (k := gAdd) (d := D.int (a2 + (1 : Int))) rfl (sp_var (i := 3)) sp_c) (sp_op (k := gAdd) (d := D.int (a2 + (5 : Int))) rfl (sp_var (i := 3)) sp_c))) sp_c (fun x => Ref.of (by rw [g_modC x 26]; rfl)))))))))) (fun (v_stem : Str) => (sx_seq (sn_asg (i := 6) (ea := D.int) (P := fun (v_at : Int) => [some (D.int v_cell_here), some (D.int v_many), some (D.str v_letters), none, some (D.int v_size), some (D.str v_stem), some (D.int v_at)]) (by exact (se_opP (k := gMod) (ec := D.int) (k_mod (v_cell_here / (48 : Int)) (v_size + (1 : Int))) (sp_op (d := .int (v_cell_here / (48 : Int))) (g_divC v_cell_here 48) (sp_var (i := 0)) sp_c) (sp_op (k := gAdd) (d := D.int (v_size + (1 : Int))) rfl (sp_var (i := 4)) sp_c)))) (fun (v_at : Int) => (sx_ret (by exact (se_comp (Pt := fun (a3 : Int) => [some (D.int v_cell_here), some (D.int v_many), some (D.str v_letters), some (D.int a3), some (D.int v_size), some (D.str v_stem), some (D.int v_at)]) (si_rng1 (fs := aNil) (SP.se (ea := D.int) (x := v_many) (sp_var (i := 1)))) (TGs.le (p' := [some (D.int v_cell_here), some (D.int v_many), some (D.str v_letters), none, some (D.int v_size), some (D.str v_stem), some (D.int v_at)]) ((show PLe [some (D.int v_cell_here), some (D.int v_many), some (D.str v_letters), none, some (D.int v_size), some (D.str v_stem), some (D.int v_at)] _ by exact And.intro rfl (And.intro rfl (And.intro rfl (And.intro rfl (And.intro rfl (And.intro rfl (trivial)))))))) tg_name) (fun a3 => (by exact (SCp.sc sc_true))) (fun a3 => (by exact (se_op (k := gAdd) (ea := D.str) (eb := D.str) (ec := D.str) (h := fun x y => catS x y) (fun x y => k_catS x y) (se_op (k := gAdd) (ea := D.str) (eb := D.str) (ec := D.str) (h := fun x y => catS x y) (fun x y => k_catS x y) (se_slSp (sp_var (i := 5)) sop_no (sop_at (sp_var (i := 6)))) (se_ixP (ec := D.str) (k_atS v_letters (((v_cell_here / (624 : Int)) + ((3 : Int) * a3)) % (26 : Int))) (sp_var (i := 2)) (sp_op (d := .int (((v_cell_here / (624 : Int)) + ((3 : Int) * a3)) % (26 : Int))) (g_modC ((v_cell_here / (624 : Int)) + ((3 : Int) * a3)) 26) (sp_op (k := gAdd) (d := D.int ((v_cell_here / (624 : Int)) + ((3 : Int) * a3))) rfl (sp_op (d := .int (v_cell_here / (624 : Int))) (g_divC v_cell_here 624) (sp_var (i := 0)) sp_c) (sp_op (d := .int ((3 : Int) * a3)) (g_mulL 3 a3) sp_c (sp_var (i := 3)))) sp_c))) (se_slSp (sp_var (i := 5)) (sop_at (sp_var (i := 6))) sop_no)))))))))))))))))) (And.intro rfl (And.intro rfl (trivial)))
def G_law_cuts : List D → R Fl := (sSeq (sAsg 3 (eLst aNil)) (sSeq (sAsg 4 (eVar 2)) (sSeq (sFor (iRng rng1 (aCons (eOp gSub (eVar 1) (eC (.int 1))) aNil)) (tgName 5) (sSeq (sAsg 6 (eOp gMod (eOp gMod (eOp gMul (eVar 0) (eOp gAdd (eC (.int 48271)) (eOp gMul (eOp gMul (eC (.int 7)) (eVar 5)) (eVar 5)))) (eC (.int 2147483647))) (eOp gAdd (eVar 4) (eC (.int 1))))) (sSeq (sIf (tVal (eOp gEq (eOp gMod (eVar 0) (eC (.int 3))) (eC (.int 0)))) (sAsg 6 (eIx (eLst (aCons (eC (.int 0)) (aCons (eVar 4) aNil))) (eOp gMod (eOp gFdiv (eVar 0) (eOp gAdd (eC (.int 3)) (eVar 5))) (eC (.int 2))))) sNil) (sSeq (sOwn 3 gApp (aCons (eVar 6) aNil)) (sAsg 4 (eOp gSub (eVar 4) (eVar 6))))))) (sRet (eCatL (eVar 3) (eLst (aCons (eVar 4) aNil)))))))
def M_law_cuts : List D → R D := runFr 7 (G_law_cuts)
def T_law_cuts_b1 (v_cell_here : Int) (s1 : ((List Int) × Int)) (a2 : Int) : R ((List Int) × Int) := (((((R.ok v_cell_here).bind fun x => ((R.ok (48271 : Int)).bind fun x => (mulR ((7 : Int) * a2) a2).bind fun y => R.ok (x + y)).bind fun y => mulR x y).bind fun x => R.ok (x % (2147483647 : Int))).bind fun x => (R.ok (s1.2 + (1 : Int))).bind fun y => modR x y).bind fun (v_one : Int) => (((R.ok (decide ((v_cell_here % (3 : Int)) = (0 : Int)))).bind fun b => if b then (((R.ok [(0 : Int), s1.2]).bind fun x => ((divR v_cell_here ((3 : Int) + a2)).bind fun x => R.ok (x % (2 : Int))).bind fun y => atR x y).bind fun (v_one : Int) => R.ok v_one) else ((R.ok ()).bind fun (_ : Unit) => R.ok v_one)).bind fun (v_one : Int) => ((appR s1.1 v_one).bind fun (v_numbers : (List Int)) => ((R.ok (s1.2 - v_one)).bind fun (v_left : Int) => R.ok (v_numbers, v_left)))))
def T_law_cuts (v_cell_here : Int) (v_size : Int) (v_many : Int) : R (List Int) := ((R.ok ([] : (List Int))).bind fun (v_numbers : (List Int)) => ((R.ok v_many).bind fun (v_left : Int) => ((((R.ok (v_size - (1 : Int))).bind rngR1).bind fun l => foldR (T_law_cuts_b1 v_cell_here) l (v_numbers, v_left)).bind fun (y3 : ((List Int) × Int)) => ((R.ok y3.1).bind fun x => (R.ok [y3.2]).bind fun y => catR x y))))
theorem sim_law_cuts (v_cell_here : Int) (v_size : Int) (v_many : Int) : Ref (M_law_cuts [D.int v_cell_here, D.int v_size, D.int v_many]) ((T_law_cuts v_cell_here v_size v_many).map (eL D.int)) := by
  unfold M_law_cuts
  exact run_xr (n := 7) (p := [some (D.int v_cell_here), some (D.int v_size), some (D.int v_many), none, none, none, none]) (by unfold G_law_cuts T_law_cuts; exact (sx_seq (sn_asg (i := 3) (ea := (eL D.int)) (P := fun (v_numbers : (List Int)) => [some (D.int v_cell_here), some (D.int v_size), some (D.int v_many), some ((eL D.int) v_numbers), none, none, none]) (by exact (SP.se (ea := (eL D.int)) (x := ([] : (List Int))) (sp_lst sa_nil)))) (fun (v_numbers : (List Int)) => (sx_seq (sn_asg (i := 4) (ea := D.int) (P := fun (v_left : Int) => [some (D.int v_cell_here), some (D.int v_size), some (D.int v_many), some ((eL D.int) v_numbers), some (D.int v_left), none, none]) (by exact (SP.se (ea := D.int) (x := v_many) (sp_var (i := 2))))) (fun (v_left : Int) => (sx_seq (sn_for (P := fun (s1 : ((List Int) × Int)) => [some (D.int v_cell_here), some (D.int v_size), some (D.int v_many), some ((eL D.int) s1.1), some (D.int s1.2), none, none]) (Pt := fun (s1 : ((List Int) × Int)) (a2 : Int) => [some (D.int v_cell_here), some (D.int v_size), some (D.int v_many), some ((eL D.int) s1.1), some (D.int s1.2), some (D.int a2), none]) (st := (T_law_cuts_b1 v_cell_here)) (v_numbers, v_left) (si_rng1 (fs := aNil) (SP.se (ea := D.int) (x := (v_size - (1 : Int))) (sp_op (k := gSub) (d := D.int (v_size - (1 : Int))) rfl (sp_var (i := 1)) sp_c))) (by exact And.intro rfl (And.intro rfl (And.intro rfl (And.intro rfl (And.intro rfl (trivial)))))) (fun _ => tg_name) (fun s1 a2 => by unfold T_law_cuts_b1; exact (sn_seq (sn_asg (i := 6) (ea := D.int) (P := fun (v_one : Int) => [some (D.int v_cell_here), some (D.int v_size), some (D.int v_many), some ((eL D.int) s1.1), some (D.int s1.2), some (D.int a2), some (D.int v_one)]) (by exact (se_op (k := gMod) (ea := D.int) (eb := D.int) (ec := D.int) (h := fun x y => modR x y) (fun x y => k_mod x y) (se_opC (ec := D.int) (h := fun x => R.ok (x % (2147483647 : Int))) (se_op (k := gMul) (ea := D.int) (eb := D.int) (ec := D.int) (h := fun x y => mulR x y) (fun x y => k_mul x y) (SP.se (ea := D.int) (x := v_cell_here) (sp_var (i := 0))) (se_op (k := gAdd) (ea := D.int) (eb := D.int) (ec := D.int) (h := fun (x : Int) (y : Int) => R.ok (x + y)) (fun x y => Ref.of rfl) (SP.se (ea := D.int) (x := (48271 : Int)) sp_c) (se_opP (k := gMul) (ec := D.int) (k_mul ((7 : Int) * a2) a2) (sp_op (d := .int ((7 : Int) * a2)) (g_mulL 7 a2) sp_c (sp_var (i := 5))) (sp_var (i := 5))))) sp_c (fun x => Ref.of (by rw [g_modC x 2147483647]; rfl))) (SP.se (ea := D.int) (x := (s1.2 + (1 : Int))) (sp_op (k := gAdd) (d := D.int (s1.2 + (1 : Int))) rfl (sp_var (i := 4)) sp_c))))) (fun (v_one : Int) => (sn_seq (sn_if (by exact (SCp.sc (sc_val (sp_op (k := gEq) (d := D.bl (decide ((v_cell_here % (3 : Int)) = (0 : Int)))) rfl (sp_op (d := .int (v_cell_here % (3 : Int))) (g_modC v_cell_here 3) (sp_var (i := 0)) sp_c) sp_c)))) (sn_yield (P := fun (v_one : Int) => [some (D.int v_cell_here), some (D.int v_size), some (D.int v_many), some ((eL D.int) s1.1), some (D.int s1.2), some (D.int a2), some (D.int v_one)]) (sn_asg (i := 6) (ea := D.int) (P := fun (v_one : Int) => [some (D.int v_cell_here), some (D.int v_size), some (D.int v_many), some ((eL D.int) s1.1), some (D.int s1.2), some (D.int a2), some (D.int v_one)]) (by exact (se_ix (ea := (eL D.int)) (eb := D.int) (ec := D.int) (h := fun x y => atR x y) (fun x y => k_atL x y) (SP.se (ea := (eL D.int)) (x := [(0 : Int), s1.2]) (sp_lst (sa_cons (d := (D.int (0 : Int))) sp_c (sa_cons (d := (D.int s1.2)) (sp_var (i := 4)) sa_nil)))) (se_opC (ec := D.int) (h := fun x => R.ok (x % (2 : Int))) (se_opP (k := gFdiv) (ec := D.int) (k_fdiv v_cell_here ((3 : Int) + a2)) (sp_var (i := 0)) (sp_op (k := gAdd) (d := D.int ((3 : Int) + a2)) rfl sp_c (sp_var (i := 5)))) sp_c (fun x => Ref.of (by rw [g_modC x 2]; rfl)))))) (fun (v_one : Int) => v_one) (fun (v_one : Int) => by exact And.intro rfl (And.intro rfl (And.intro rfl (And.intro rfl (And.intro rfl (And.intro rfl (And.intro rfl (trivial))))))))) (sn_yield (P := fun (v_one : Int) => [some (D.int v_cell_here), some (D.int v_size), some (D.int v_many), some ((eL D.int) s1.1), some (D.int s1.2), some (D.int a2), some (D.int v_one)]) sn_nil (fun (_ : Unit) => v_one) (fun (_ : Unit) => by exact And.intro rfl (And.intro rfl (And.intro rfl (And.intro rfl (And.intro rfl (And.intro rfl (And.intro rfl (trivial)))))))))) (fun (v_one : Int) => (sn_seq (sn_appP (i := 3) (l := s1.1) (x := v_one) (ea := D.int) (P := fun (v_numbers : (List Int)) => [some (D.int v_cell_here), some (D.int v_size), some (D.int v_many), some ((eL D.int) v_numbers), some (D.int s1.2), some (D.int a2), some (D.int v_one)]) rfl (sp_var (i := 6))) (fun (v_numbers : (List Int)) => (sn_yield (P := fun (s1 : ((List Int) × Int)) => [some (D.int v_cell_here), some (D.int v_size), some (D.int v_many), some ((eL D.int) s1.1), some (D.int s1.2), none, none]) (sn_asg (i := 4) (ea := D.int) (P := fun (v_left : Int) => [some (D.int v_cell_here), some (D.int v_size), some (D.int v_many), some ((eL D.int) v_numbers), some (D.int v_left), some (D.int a2), some (D.int v_one)]) (by exact (SP.se (ea := D.int) (x := (s1.2 - v_one)) (sp_op (k := gSub) (d := D.int (s1.2 - v_one)) rfl (sp_var (i := 4)) (sp_var (i := 6)))))) (fun (v_left : Int) => (v_numbers, v_left)) (fun (v_left : Int) => by exact And.intro rfl (And.intro rfl (And.intro rfl (And.intro rfl (And.intro rfl (trivial))))))))))))))) (fun (y3 : ((List Int) × Int)) => (sx_ret (by exact (se_catL (SP.se (ea := (eL D.int)) (x := y3.1) (sp_var (i := 3))) (SP.se (ea := (eL D.int)) (x := [y3.2]) (sp_lst (sa_cons (d := (D.int y3.2)) (sp_var (i := 4)) sa_nil))))))))))))) (And.intro rfl (And.intro rfl (And.intro rfl (trivial))))
def G_law_shape : List D → R Fl := (sSeq (sAsg 5 (eCall M_law_cell (aCons (eVar 0) (aCons (eOp gAdd (eOp gAdd (eVar 1) (eC (.int 2))) (eOp gMul (eC (.int 2)) (eVar 2))) aNil)))) (sSeq (sAsg 6 (eB gMin (aCons (eOp gAdd (eC (.int 2)) (eIx (eLst (aCons (eC (.int 0)) (aCons (eC (.int 0)) (aCons (eC (.int 1)) (aCons (eC (.int 0)) (aCons (eC (.int 2)) (aCons (eC (.int 0)) aNil))))))) (eOp gMod (eVar 5) (eC (.int 6))))) (aCons (eB gMax (aCons (eC (.int 2)) (aCons (eVar 4) aNil))) aNil)))) (sSeq (sAsg 7 (eSlL .fr (eComp (iRng rng1 (aCons (eVar 2) aNil)) (tgName 8) (tAndB (tVal (eOp gEq (eOp gMod (eOp gFdiv (eOp gFdiv (eVar 5) (eC (.int 6))) (eOp gShl (eC (.int 1)) (eVar 8))) (eC (.int 2))) (eC (.int 1)))) (tVal (eOp gGt (eOp gMod (eOp gFdiv (eVar 5) (eC (.int 7))) (eC (.int 4))) (eC (.int 0))))) (eIx (eVar 3) (eVar 8))) pNo (pAt (eC (.int 3))))) (sSeq (sAsg 9 (eOp gMod (eOp gFdiv (eVar 5) (eC (.int 11))) (eB gMax (aCons (eC (.int 1)) (aCons (eB gLen (aCons (eVar 7) aNil)) aNil))))) (sSeq (sAsg 7 (eCatL (eSlL .im (eVar 7) (pAt (eVar 9)) pNo) (eSlL .im (eVar 7) pNo (pAt (eVar 9))))) (sSeq (sIf (tVal (eOp gEq (eOp gMod (eOp gFdiv (eVar 5) (eC (.int 5))) (eC (.int 2))) (eC (.int 1)))) (sAsg 7 (eComp (iRevL (eVar 7)) (tgName 10) tTrue (eVar 10))) sNil) (sSeq (sAsg 11 (eCall M_law_cell (aCons (eVar 0) (aCons (eOp gAdd (eOp gAdd (eVar 1) (eC (.int 3))) (eOp gMul (eC (.int 2)) (eVar 2))) aNil)))) (sSeq (sAsg 12 (eCall M_law_cell (aCons (eVar 0) (aCons (eOp gAdd (eVar 1) (eC (.int 1))) aNil)))) (sSeq (sAsg 13 (eCall M_law_words (aCons (eIx (eLst (aCons (eOp gFdiv (eVar 12) (eC (.int 7))) (aCons (eVar 12) (aCons (eOp gFdiv (eVar 11) (eC (.int 12))) (aCons (eOp gFdiv (eVar 11) (eC (.int 16))) aNil))))) (eOp gMod (eOp gFdiv (eVar 11) (eC (.int 4))) (eC (.int 4)))) (aCons (eVar 6) aNil)))) (sRet (eLst (aCons (eVar 13) (aCons (eVar 7) (aCons (eOp gAdd (eC (.int 1)) (eOp gMod (eOp gFdiv (eVar 11) (eC (.int 2))) (eIx (eLst (aCons (eC (.int 6)) (aCons (eOp gPow (eC (.int 10)) (eC (.int 9))) aNil))) (eOp gMod (eVar 11) (eC (.int 2)))))) aNil))))))))))))))
def M_law_shape : List D → R D := runFr 14 (G_law_shape)
def T_law_shape (v_script : (List Int)) (v_at : Int) (v_k : Int) (v_names : (List Str)) (v_room : Int) : R ((List Str) × (List Str) × Int) := ((T_law_cell v_script ((v_at + (2 : Int)) + ((2 : Int) * v_k))).bind fun (v_shape_here : Int) => (((((R.ok (2 : Int)).bind fun x => (atR [(0 : Int), (0 : Int), (1 : Int), (0 : Int), (2 : Int), (0 : Int)] (v_shape_here % (6 : Int))).bind fun y => R.ok (x + y)).bind fun x => ((R.ok (if v_room > (2 : Int) then v_room else (2 : Int))).bind fun x => (R.ok ()).bind fun xs => R.ok (x, xs)).bind fun xs => R.ok (x, xs)).bind fun t => R.ok (if t.2.1 < t.1 then t.2.1 else t.1)).bind fun (v_size : Int) => (((((R.ok v_k).bind rngR1).bind fun l => (cmpR (fun (a1 : Int) => (((((R.ok (v_shape_here / (6 : Int))).bind fun x => (shlR (1 : Int) a1).bind fun y => divR x y).bind fun x => R.ok (x % (2 : Int))).bind fun x => (R.ok (1 : Int)).bind fun y => R.ok (decide (x = y))).bind fun a => if a then (R.ok (decide ((0 : Int) < ((v_shape_here / (7 : Int)) % (4 : Int))))) else R.ok false)) (fun (a1 : Int) => (atR v_names a1)) l).bind fitN).bind fun l => (R.ok none).bind fun lo => (R.ok (some (3 : Int))).bind fun hi => R.ok (cutL l lo hi)).bind fun (v_elders : (List Str)) => ((modR (v_shape_here / (11 : Int)) (if (v_elders.length : Int) > (1 : Int) then (v_elders.length : Int) else (1 : Int))).bind fun (v_turn : Int) => (((R.ok (cutL v_elders (some v_turn) none)).bind fun x => (R.ok (cutL v_elders none (some v_turn))).bind fun y => catR x y).bind fun (v_elders : (List Str)) => (((R.ok (decide (((v_shape_here / (5 : Int)) % (2 : Int)) = (1 : Int)))).bind fun b => if b then ((((R.ok v_elders).bind fun l => R.ok l.reverse).bind fun l => (cmpR (fun (a2 : Str) => (R.ok true)) (fun (a2 : Str) => (R.ok a2)) l).bind fitN).bind fun (v_elders : (List Str)) => R.ok v_elders) else ((R.ok ()).bind fun (_ : Unit) => R.ok v_elders)).bind fun (v_elders : (List Str)) => ((T_law_cell v_script ((v_at + (3 : Int)) + ((2 : Int) * v_k))).bind fun (v_other : Int) => ((T_law_cell v_script (v_at + (1 : Int))).bind fun (v_base : Int) => ((((atR [(v_base / (7 : Int)), v_base, (v_other / (12 : Int)), (v_other / (16 : Int))] ((v_other / (4 : Int)) % (4 : Int))).bind fun x => ((R.ok v_size).bind fun x => (R.ok ()).bind fun xs => R.ok (x, xs)).bind fun xs => R.ok (x, xs)).bind fun t => T_law_words t.1 t.2.1).bind fun (v_values : (List Str)) => (((R.ok v_values).bind fun x => ((R.ok v_elders).bind fun x => (((R.ok (1 : Int)).bind fun x => ((R.ok (v_other / (2 : Int))).bind fun x => (atR [(6 : Int), (1000000000 : Int)] (v_other % (2 : Int))).bind fun y => modR x y).bind fun y => R.ok (x + y)).bind fun x => (R.ok ()).bind fun xs => R.ok (x, xs)).bind fun xs => R.ok (x, xs)).bind fun xs => R.ok (x, xs)).bind fun t => R.ok (t.1, t.2.1, t.2.2.1)))))))))))
theorem sim_law_shape (v_script : (List Int)) (v_at : Int) (v_k : Int) (v_names : (List Str)) (v_room : Int) : Ref (M_law_shape [(eL D.int) v_script, D.int v_at, D.int v_k, (eL D.str) v_names, D.int v_room]) ((T_law_shape v_script v_at v_k v_names v_room).map (h3 (eL D.str) (eL D.str) D.int)) := by
  unfold M_law_shape
  exact run_xr (n := 14) (p := [some ((eL D.int) v_script), some (D.int v_at), some (D.int v_k), some ((eL D.str) v_names), some (D.int v_room), none, none, none, none, none, none, none, none, none]) (by unfold G_law_shape T_law_shape; exact (sx_seq (sn_asg (i := 5) (ea := D.int) (P := fun (v_shape_here : Int) => [some ((eL D.int) v_script), some (D.int v_at), some (D.int v_k), some ((eL D.str) v_names), some (D.int v_room), some (D.int v_shape_here), none, none, none, none, none, none, none, none]) (by exact (se_call (sa_cons (d := ((eL D.int) v_script)) (sp_var (i := 0)) (sa_cons (d := (D.int ((v_at + (2 : Int)) + ((2 : Int) * v_k)))) (sp_op (k := gAdd) (d := D.int ((v_at + (2 : Int)) + ((2 : Int) * v_k))) rfl (sp_op (k := gAdd) (d := D.int (v_at + (2 : Int))) rfl (sp_var (i := 1)) sp_c) (sp_op (d := .int ((2 : Int) * v_k)) (g_mulL 2 v_k) sp_c (sp_var (i := 2)))) sa_nil)) (sim_law_cell v_script ((v_at + (2 : Int)) + ((2 : Int) * v_k)))))) (fun (v_shape_here : Int) => (sx_seq (sn_asg (i := 6) (ea := D.int) (P := fun (v_size : Int) => [some ((eL D.int) v_script), some (D.int v_at), some (D.int v_k), some ((eL D.str) v_names), some (D.int v_room), some (D.int v_shape_here), some (D.int v_size), none, none, none, none, none, none, none]) (by exact (se_bE (k := gMin) (ea := D.int) (T := fun (t : (Int × Int × Unit)) => R.ok (if t.2.1 < t.1 then t.2.1 else t.1)) (sa_consE (se_op (k := gAdd) (ea := D.int) (eb := D.int) (ec := D.int) (h := fun (x : Int) (y : Int) => R.ok (x + y)) (fun x y => Ref.of rfl) (SP.se (ea := D.int) (x := (2 : Int)) sp_c) (se_ixP (ec := D.int) (k_atL [(0 : Int), (0 : Int), (1 : Int), (0 : Int), (2 : Int), (0 : Int)] (v_shape_here % (6 : Int))) (sp_lst (sa_cons (d := (D.int (0 : Int))) sp_c (sa_cons (d := (D.int (0 : Int))) sp_c (sa_cons (d := (D.int (1 : Int))) sp_c (sa_cons (d := (D.int (0 : Int))) sp_c (sa_cons (d := (D.int (2 : Int))) sp_c (sa_cons (d := (D.int (0 : Int))) sp_c sa_nil))))))) (sp_op (d := .int (v_shape_here % (6 : Int))) (g_modC v_shape_here 6) (sp_var (i := 5)) sp_c))) (sa_consE (SP.se (ea := D.int) (x := (if v_room > (2 : Int) then v_room else (2 : Int))) (sp_b (k := gMax) (d := D.int (if v_room > (2 : Int) then v_room else (2 : Int))) (sa_cons (d := (D.int (2 : Int))) sp_c (sa_cons (d := (D.int v_room)) (sp_var (i := 4)) sa_nil)) rfl)) sa_nilE)) (fun t => Ref.of rfl)))) (fun (v_size : Int) => (sx_seq (sn_asg (i := 7) (ea := (eL D.str)) (P := fun (v_elders : (List Str)) => [some ((eL D.int) v_script), some (D.int v_at), some (D.int v_k), some ((eL D.str) v_names), some (D.int v_room), some (D.int v_shape_here), some (D.int v_size), some ((eL D.str) v_elders), none, none, none, none, none, none]) (by exact (se_slL (se_comp (Pt := fun (a1 : Int) => [some ((eL D.int) v_script), some (D.int v_at), some (D.int v_k), some ((eL D.str) v_names), some (D.int v_room), some (D.int v_shape_here), some (D.int v_size), none, some (D.int a1), none, none, none, none, none]) (si_rng1 (fs := aNil) (SP.se (ea := D.int) (x := v_k) (sp_var (i := 2)))) (TGs.le (p' := [some ((eL D.int) v_script), some (D.int v_at), some (D.int v_k), some ((eL D.str) v_names), some (D.int v_room), some (D.int v_shape_here), some (D.int v_size), none, none, none, none, none, none, none]) ((show PLe [some ((eL D.int) v_script), some (D.int v_at), some (D.int v_k), some ((eL D.str) v_names), some (D.int v_room), some (D.int v_shape_here), some (D.int v_size), none, none, none, none, none, none, none] _ by exact And.intro rfl (And.intro rfl (And.intro rfl (And.intro rfl (And.intro rfl (And.intro rfl (And.intro rfl (trivial))))))))) tg_name) (fun a1 => (by exact (sc_andE (sc_valE (se_op (k := gEq) (ea := D.int) (eb := D.int) (ec := D.bl) (h := fun (x : Int) (y : Int) => R.ok (decide (x = y))) (fun x y => Ref.of rfl) (se_opC (ec := D.int) (h := fun x => R.ok (x % (2 : Int))) (se_op (k := gFdiv) (ea := D.int) (eb := D.int) (ec := D.int) (h := fun x y => divR x y) (fun x y => k_fdiv x y) (SP.se (ea := D.int) (x := (v_shape_here / (6 : Int))) (sp_op (d := .int (v_shape_here / (6 : Int))) (g_divC v_shape_here 6) (sp_var (i := 5)) sp_c)) (se_opP (k := gShl) (ec := D.int) (k_shl (1 : Int) a1) sp_c (sp_var (i := 8)))) sp_c (fun x => Ref.of (by rw [g_modC x 2]; rfl))) (SP.se (ea := D.int) (x := (1 : Int)) sp_c))) (SCp.sc (sc_val (sp_op (k := gGt) (d := D.bl (decide ((0 : Int) < ((v_shape_here / (7 : Int)) % (4 : Int))))) rfl (sp_op (d := .int ((v_shape_here / (7 : Int)) % (4 : Int))) (g_modC (v_shape_here / (7 : Int)) 4) (sp_op (d := .int (v_shape_here / (7 : Int))) (g_divC v_shape_here 7) (sp_var (i := 5)) sp_c) sp_c) sp_c)))))) (fun a1 => (by exact (se_ixP (ec := D.str) (k_atL v_names a1) (sp_var (i := 3)) (sp_var (i := 8)))))) (SOp.so sop_no) (SOp.so (sop_at sp_c)) (fun _ => rfl)))) (fun (v_elders : (List Str)) => (sx_seq (sn_asg (i := 9) (ea := D.int) (P := fun (v_turn : Int) => [some ((eL D.int) v_script), some (D.int v_at), some (D.int v_k), some ((eL D.str) v_names), some (D.int v_room), some (D.int v_shape_here), some (D.int v_size), some ((eL D.str) v_elders), none, some (D.int v_turn), none, none, none, none]) (by exact (se_opP (k := gMod) (ec := D.int) (k_mod (v_shape_here / (11 : Int)) (if (v_elders.length : Int) > (1 : Int) then (v_elders.length : Int) else (1 : Int))) (sp_op (d := .int (v_shape_here / (11 : Int))) (g_divC v_shape_here 11) (sp_var (i := 5)) sp_c) (sp_b (k := gMax) (d := D.int (if (v_elders.length : Int) > (1 : Int) then (v_elders.length : Int) else (1 : Int))) (sa_cons (d := (D.int (1 : Int))) sp_c (sa_cons (d := (D.int (v_elders.length : Int))) (sp_b (k := gLen) (d := D.int (v_elders.length : Int)) (sa_cons (d := ((eL D.str) v_elders)) (sp_var (i := 7)) sa_nil) (g_lenL _)) sa_nil)) rfl)))) (fun (v_turn : Int) => (sx_seq (sn_asg (i := 7) (ea := (eL D.str)) (P := fun (v_elders : (List Str)) => [some ((eL D.int) v_script), some (D.int v_at), some (D.int v_k), some ((eL D.str) v_names), some (D.int v_room), some (D.int v_shape_here), some (D.int v_size), some ((eL D.str) v_elders), none, some (D.int v_turn), none, none, none, none]) (by exact (se_catL (SP.se (ea := (eL D.str)) (x := (cutL v_elders (some v_turn) none)) (sp_slL (l := v_elders) (sp_var (i := 7)) (sop_at (sp_var (i := 9))) sop_no rfl)) (SP.se (ea := (eL D.str)) (x := (cutL v_elders none (some v_turn))) (sp_slL (l := v_elders) (sp_var (i := 7)) sop_no (sop_at (sp_var (i := 9))) rfl))))) (fun (v_elders : (List Str)) => (sx_seq (sn_if (by exact (SCp.sc (sc_val (sp_op (k := gEq) (d := D.bl (decide (((v_shape_here / (5 : Int)) % (2 : Int)) = (1 : Int)))) rfl (sp_op (d := .int ((v_shape_here / (5 : Int)) % (2 : Int))) (g_modC (v_shape_here / (5 : Int)) 2) (sp_op (d := .int (v_shape_here / (5 : Int))) (g_divC v_shape_here 5) (sp_var (i := 5)) sp_c) sp_c) sp_c)))) (sn_yield (P := fun (v_elders : (List Str)) => [some ((eL D.int) v_script), some (D.int v_at), some (D.int v_k), some ((eL D.str) v_names), some (D.int v_room), some (D.int v_shape_here), some (D.int v_size), some ((eL D.str) v_elders), none, some (D.int v_turn), none, none, none, none]) (sn_asg (i := 7) (ea := (eL D.str)) (P := fun (v_elders : (List Str)) => [some ((eL D.int) v_script), some (D.int v_at), some (D.int v_k), some ((eL D.str) v_names), some (D.int v_room), some (D.int v_shape_here), some (D.int v_size), some ((eL D.str) v_elders), none, some (D.int v_turn), none, none, none, none]) (by exact (se_comp (Pt := fun (a2 : Str) => [some ((eL D.int) v_script), some (D.int v_at), some (D.int v_k), some ((eL D.str) v_names), some (D.int v_room), some (D.int v_shape_here), some (D.int v_size), some ((eL D.str) v_elders), none, some (D.int v_turn), some (D.str a2), none, none, none]) (si_revL (SP.se (ea := (eL D.str)) (x := v_elders) (sp_var (i := 7)))) (TGs.le (p' := [some ((eL D.int) v_script), some (D.int v_at), some (D.int v_k), some ((eL D.str) v_names), some (D.int v_room), some (D.int v_shape_here), some (D.int v_size), some ((eL D.str) v_elders), none, some (D.int v_turn), none, none, none, none]) ((show PLe [some ((eL D.int) v_script), some (D.int v_at), some (D.int v_k), some ((eL D.str) v_names), some (D.int v_room), some (D.int v_shape_here), some (D.int v_size), some ((eL D.str) v_elders), none, some (D.int v_turn), none, none, none, none] _ by exact And.intro rfl (And.intro rfl (And.intro rfl (And.intro rfl (And.intro rfl (And.intro rfl (And.intro rfl (And.intro rfl (And.intro rfl (trivial))))))))))) tg_name) (fun a2 => (by exact (SCp.sc sc_true))) (fun a2 => (by exact (SP.se (ea := D.str) (x := a2) (sp_var (i := 10)))))))) (fun (v_elders : (List Str)) => v_elders) (fun (v_elders : (List Str)) => by exact And.intro rfl (And.intro rfl (And.intro rfl (And.intro rfl (And.intro rfl (And.intro rfl (And.intro rfl (And.intro rfl (And.intro rfl (trivial))))))))))) (sn_yield (P := fun (v_elders : (List Str)) => [some ((eL D.int) v_script), some (D.int v_at), some (D.int v_k), some ((eL D.str) v_names), some (D.int v_room), some (D.int v_shape_here), some (D.int v_size), some ((eL D.str) v_elders), none, some (D.int v_turn), none, none, none, none]) sn_nil (fun (_ : Unit) => v_elders) (fun (_ : Unit) => by exact And.intro rfl (And.intro rfl (And.intro rfl (And.intro rfl (And.intro rfl (And.intro rfl (And.intro rfl (And.intro rfl (And.intro rfl (trivial)))))))))))) (fun (v_elders : (List Str)) => (sx_seq (sn_asg (i := 11) (ea := D.int) (P := fun (v_other : Int) => [some ((eL D.int) v_script), some (D.int v_at), some (D.int v_k), some ((eL D.str) v_names), some (D.int v_room), some (D.int v_shape_here), some (D.int v_size), some ((eL D.str) v_elders), none, some (D.int v_turn), none, some (D.int v_other), none, none]) (by exact (se_call (sa_cons (d := ((eL D.int) v_script)) (sp_var (i := 0)) (sa_cons (d := (D.int ((v_at + (3 : Int)) + ((2 : Int) * v_k)))) (sp_op (k := gAdd) (d := D.int ((v_at + (3 : Int)) + ((2 : Int) * v_k))) rfl (sp_op (k := gAdd) (d := D.int (v_at + (3 : Int))) rfl (sp_var (i := 1)) sp_c) (sp_op (d := .int ((2 : Int) * v_k)) (g_mulL 2 v_k) sp_c (sp_var (i := 2)))) sa_nil)) (sim_law_cell v_script ((v_at + (3 : Int)) + ((2 : Int) * v_k)))))) (fun (v_other : Int) => (sx_seq (sn_asg (i := 12) (ea := D.int) (P := fun (v_base : Int) => [some ((eL D.int) v_script), some (D.int v_at), some (D.int v_k), some ((eL D.str) v_names), some (D.int v_room), some (D.int v_shape_here), some (D.int v_size), some ((eL D.str) v_elders), none, some (D.int v_turn), none, some (D.int v_other), some (D.int v_base), none]) (by exact (se_call (sa_cons (d := ((eL D.int) v_script)) (sp_var (i := 0)) (sa_cons (d := (D.int (v_at + (1 : Int)))) (sp_op (k := gAdd) (d := D.int (v_at + (1 : Int))) rfl (sp_var (i := 1)) sp_c) sa_nil)) (sim_law_cell v_script (v_at + (1 : Int)))))) (fun (v_base : Int) => (sx_seq (sn_asg (i := 13) (ea := (eL D.str)) (P := fun (v_values : (List Str)) => [some ((eL D.int) v_script), some (D.int v_at), some (D.int v_k), some ((eL D.str) v_names), some (D.int v_room), some (D.int v_shape_here), some (D.int v_size), some ((eL D.str) v_elders), none, some (D.int v_turn), none, some (D.int v_other), some (D.int v_base), some ((eL D.str) v_values)]) (by exact (se_callE (T := fun (t : (Int × Int × Unit)) => T_law_words t.1 t.2.1) (sa_consE (se_ixP (ec := D.int) (k_atL [(v_base / (7 : Int)), v_base, (v_other / (12 : Int)), (v_other / (16 : Int))] ((v_other / (4 : Int)) % (4 : Int))) (sp_lst (sa_cons (d := (D.int (v_base / (7 : Int)))) (sp_op (d := .int (v_base / (7 : Int))) (g_divC v_base 7) (sp_var (i := 12)) sp_c) (sa_cons (d := (D.int v_base)) (sp_var (i := 12)) (sa_cons (d := (D.int (v_other / (12 : Int)))) (sp_op (d := .int (v_other / (12 : Int))) (g_divC v_other 12) (sp_var (i := 11)) sp_c) (sa_cons (d := (D.int (v_other / (16 : Int)))) (sp_op (d := .int (v_other / (16 : Int))) (g_divC v_other 16) (sp_var (i := 11)) sp_c) sa_nil))))) (sp_op (d := .int ((v_other / (4 : Int)) % (4 : Int))) (g_modC (v_other / (4 : Int)) 4) (sp_op (d := .int (v_other / (4 : Int))) (g_divC v_other 4) (sp_var (i := 11)) sp_c) sp_c)) (sa_consE (SP.se (ea := D.int) (x := v_size) (sp_var (i := 6))) sa_nilE)) (fun t => sim_law_words t.1 t.2.1)))) (fun (v_values : (List Str)) => (sx_ret (by exact (se_lst (ea := (h3 (eL D.str) (eL D.str) D.int)) (T := fun (t : ((List Str) × (List Str) × Int × Unit)) => (t.1, t.2.1, t.2.2.1)) (sa_consE (SP.se (ea := (eL D.str)) (x := v_values) (sp_var (i := 13))) (sa_consE (SP.se (ea := (eL D.str)) (x := v_elders) (sp_var (i := 7))) (sa_consE (se_op (k := gAdd) (ea := D.int) (eb := D.int) (ec := D.int) (h := fun (x : Int) (y : Int) => R.ok (x + y)) (fun x y => Ref.of rfl) (SP.se (ea := D.int) (x := (1 : Int)) sp_c) (se_op (k := gMod) (ea := D.int) (eb := D.int) (ec := D.int) (h := fun x y => modR x y) (fun x y => k_mod x y) (SP.se (ea := D.int) (x := (v_other / (2 : Int))) (sp_op (d := .int (v_other / (2 : Int))) (g_divC v_other 2) (sp_var (i := 11)) sp_c)) (se_ixP (ec := D.int) (k_atL [(6 : Int), (1000000000 : Int)] (v_other % (2 : Int))) (sp_lst (sa_cons (d := (D.int (6 : Int))) sp_c (sa_cons (d := (D.int (1000000000 : Int))) (sp_op (d := .int 1000000000) (g_powC 10 9 1000000000) sp_c sp_c) sa_nil))) (sp_op (d := .int (v_other % (2 : Int))) (g_modC v_other 2) (sp_var (i := 11)) sp_c)))) sa_nilE))) (fun _ => rfl))))))))))))))))))))))) (And.intro rfl (And.intro rfl (And.intro rfl (And.intro rfl (And.intro rfl (trivial))))))
def G_law_rows : List D → R Fl := (sSeq (sAsg 4 (eOp gAdd (eC (.int 1)) (eOp gMod (eCall M_law_cell (aCons (eVar 0) (aCons (eVar 1) aNil))) (eVar 2)))) (sSeq (sAsg 5 (eCall M_law_words (aCons (eCall M_law_cell (aCons (eVar 0) (aCons (eOp gAdd (eVar 1) (eC (.int 1))) aNil))) (aCons (eVar 4) aNil)))) (sSeq (sAsg 6 (eLst aNil)) (sSeq (sAsg 7 (eC (.dic []))) (sSeq (sAsg 8 (eC (.int 1))) (sSeq (sAsg 9 (eOp gAdd (eOp gAdd (eVar 1) (eC (.int 2))) (eOp gMul (eC (.int 2)) (eVar 4)))) (sSeq (sFor (iRng rng1 (aCons (eVar 4) aNil)) (tgName 10) (sSeq (sUnp (tgLst [14, 15, 16]) (eCall M_law_shape (aCons (eVar 0) (aCons (eVar 1) (aCons (eVar 10) (aCons (eVar 5) (aCons (eOp gFdiv (eVar 3) (eOp gMul (eVar 8) (eOp gShl (eC (.int 1)) (eOp gSub (eOp gSub (eVar 4) (eVar 10)) (eC (.int 1)))))) aNil))))))) (sSeq (sDPutV 7 (eIx (eVar 5) (eVar 10)) (eB gLen (aCons (eVar 14) aNil))) (sSeq (sAsg 8 (eOp gMul (eVar 8) (eB gLen (aCons (eVar 14) aNil)))) (sSeq (sAsg 11 (eC (.int 1))) (sSeq (sFor (iLst (eVar 15)) (tgName 12) (sAsg 11 (eOp gMul (eVar 11) (eDGet (eVar 7) (eVar 12))))) (sSeq (sAsg 13 (eComp (iRng rng1 (aCons (eVar 11) aNil)) (tgName 17) tTrue (eCall M_law_cuts (aCons (eCall M_law_cell (aCons (eVar 0) (aCons (eOp gAdd (eVar 9) (eVar 17)) aNil))) (aCons (eB gLen (aCons (eVar 14) aNil)) (aCons (eVar 16) aNil)))))) (sSeq (sAsg 9 (eOp gAdd (eVar 9) (eVar 11))) (sOwn 6 gApp (aCons (eTup (aCons (eIx (eVar 5) (eVar 10)) (aCons (eVar 14) (aCons (eVar 15) (aCons (eVar 13) aNil))))) aNil)))))))))) (sRet (eVar 6)))))))))
def M_law_rows : List D → R D := runFr 18 (G_law_rows)
def T_law_rows_b1 (v_sizes : (List (Str × Int))) (s4 : Int) (a5 : Str) : R Int := (((R.ok s4).bind fun x => (dgetR v_sizes a5).bind fun y => mulR x y).bind fun (v_turns : Int) => R.ok v_turns)
def T_law_rows_b2 (v_script : (List Int)) (v_at : Int) (v_top : Int) (v_count : Int) (v_names : (List Str)) (s1 : ((List (Str × (List Str) × (List Str) × (List (List Int)))) × (List (Str × Int)) × Int × Int)) (a2 : Int) : R ((List (Str × (List Str) × (List Str) × (List (List Int)))) × (List (Str × Int)) × Int × Int) := ((((R.ok v_script).bind fun x => ((R.ok v_at).bind fun x => ((R.ok a2).bind fun x => ((R.ok v_names).bind fun x => (((R.ok v_top).bind fun x => ((R.ok s1.2.2.1).bind fun x => (shlR (1 : Int) ((v_count - a2) - (1 : Int))).bind fun y => mulR x y).bind fun y => divR x y).bind fun x => (R.ok ()).bind fun xs => R.ok (x, xs)).bind fun xs => R.ok (x, xs)).bind fun xs => R.ok (x, xs)).bind fun xs => R.ok (x, xs)).bind fun xs => R.ok (x, xs)).bind fun t => T_law_shape t.1 t.2.1 t.2.2.1 t.2.2.2.1 t.2.2.2.2.1).bind fun (y3 : ((List Str) × (List Str) × Int)) => (((R.ok (y3.1.length : Int)).bind fun x => (atR v_names a2).bind fun k => putN s1.2.1 k x).bind fun (v_sizes : (List (Str × Int))) => ((mulR s1.2.2.1 (y3.1.length : Int)).bind fun (v_total : Int) => ((R.ok (1 : Int)).bind fun (v_turns : Int) => (((R.ok y3.2.1).bind fun l => foldR (T_law_rows_b1 v_sizes) l v_turns).bind fun (v_turns : Int) => ((((R.ok v_turns).bind rngR1).bind fun l => (cmpR (fun (a6 : Int) => (R.ok true)) (fun (a6 : Int) => (((T_law_cell v_script (s1.2.2.2 + a6)).bind fun x => ((R.ok (y3.1.length : Int)).bind fun x => ((R.ok y3.2.2).bind fun x => (R.ok ()).bind fun xs => R.ok (x, xs)).bind fun xs => R.ok (x, xs)).bind fun xs => R.ok (x, xs)).bind fun t => T_law_cuts t.1 t.2.1 t.2.2.1)) l).bind fitN).bind fun (v_table : (List (List Int))) => ((R.ok (s1.2.2.2 + v_turns)).bind fun (v_spot : Int) => (((((atR v_names a2).bind fun x => ((R.ok y3.1).bind fun x => ((R.ok y3.2.1).bind fun x => ((R.ok v_table).bind fun x => (R.ok ()).bind fun xs => R.ok (x, xs)).bind fun xs => R.ok (x, xs)).bind fun xs => R.ok (x, xs)).bind fun xs => R.ok (x, xs)).bind fun t => R.ok (t.1, t.2.1, t.2.2.1, t.2.2.2.1)).bind fun x => appR s1.1 x).bind fun (v_rows_here : (List (Str × (List Str) × (List Str) × (List (List Int))))) => R.ok (v_rows_here, v_sizes, v_total, v_spot)))))))))
def T_law_rows (v_script : (List Int)) (v_at : Int) (v_most : Int) (v_top : Int) : R (List (Str × (List Str) × (List Str) × (List (List Int)))) := (((R.ok (1 : Int)).bind fun x => ((T_law_cell v_script v_at).bind fun x => (R.ok v_most).bind fun y => modR x y).bind fun y => R.ok (x + y)).bind fun (v_count : Int) => ((((T_law_cell v_script (v_at + (1 : Int))).bind fun x => ((R.ok v_count).bind fun x => (R.ok ()).bind fun xs => R.ok (x, xs)).bind fun xs => R.ok (x, xs)).bind fun t => T_law_words t.1 t.2.1).bind fun (v_names : (List Str)) => ((R.ok ([] : (List (Str × (List Str) × (List Str) × (List (List Int)))))).bind fun (v_rows_here : (List (Str × (List Str) × (List Str) × (List (List Int))))) => ((R.ok ([] : (List (Str × Int)))).bind fun (v_sizes : (List (Str × Int))) => ((R.ok (1 : Int)).bind fun (v_total : Int) => ((R.ok ((v_at + (2 : Int)) + ((2 : Int) * v_count))).bind fun (v_spot : Int) => ((((R.ok v_count).bind rngR1).bind fun l => foldR (T_law_rows_b2 v_script v_at v_top v_count v_names) l (v_rows_here, v_sizes, v_total, v_spot)).bind fun (y7 : ((List (Str × (List Str) × (List Str) × (List (List Int)))) × (List (Str × Int)) × Int × Int)) => (R.ok y7.1))))))))
theorem sim_law_rows (v_script : (List Int)) (v_at : Int) (v_most : Int) (v_top : Int) : Ref (M_law_rows [(eL D.int) v_script, D.int v_at, D.int v_most, D.int v_top]) ((T_law_rows v_script v_at v_most v_top).map (eL (e4 D.str (eL D.str) (eL D.str) (eL (eL D.int))))) := by
  unfold M_law_rows
  exact run_xr (n := 18) (p := [some ((eL D.int) v_script), some (D.int v_at), some (D.int v_most), some (D.int v_top), none, none, none, none, none, none, none, none, none, none, none, none, none, none]) (by unfold G_law_rows T_law_rows; exact (sx_seq (sn_asg (i := 4) (ea := D.int) (P := fun (v_count : Int) => [some ((eL D.int) v_script), some (D.int v_at), some (D.int v_most), some (D.int v_top), some (D.int v_count), none, none, none, none, none, none, none, none, none, none, none, none, none]) (by exact (se_op (k := gAdd) (ea := D.int) (eb := D.int) (ec := D.int) (h := fun (x : Int) (y : Int) => R.ok (x + y)) (fun x y => Ref.of rfl) (SP.se (ea := D.int) (x := (1 : Int)) sp_c) (se_op (k := gMod) (ea := D.int) (eb := D.int) (ec := D.int) (h := fun x y => modR x y) (fun x y => k_mod x y) (se_call (sa_cons (d := ((eL D.int) v_script)) (sp_var (i := 0)) (sa_cons (d := (D.int v_at)) (sp_var (i := 1)) sa_nil)) (sim_law_cell v_script v_at)) (SP.se (ea := D.int) (x := v_most) (sp_var (i := 2))))))) (fun (v_count : Int) => (sx_seq (sn_asg (i := 5) (ea := (eL D.str)) (P := fun (v_names : (List Str)) => [some ((eL D.int) v_script), some (D.int v_at), some (D.int v_most), some (D.int v_top), some (D.int v_count), some ((eL D.str) v_names), none, none, none, none, none, none, none, none, none, none, none, none]) (by exact (se_callE (T := fun (t : (Int × Int × Unit)) => T_law_words t.1 t.2.1) (sa_consE (se_call (sa_cons (d := ((eL D.int) v_script)) (sp_var (i := 0)) (sa_cons (d := (D.int (v_at + (1 : Int)))) (sp_op (k := gAdd) (d := D.int (v_at + (1 : Int))) rfl (sp_var (i := 1)) sp_c) sa_nil)) (sim_law_cell v_script (v_at + (1 : Int)))) (sa_consE (SP.se (ea := D.int) (x := v_count) (sp_var (i := 4))) sa_nilE)) (fun t => sim_law_words t.1 t.2.1)))) (fun (v_names : (List Str)) => (sx_seq (sn_asg (i := 6) (ea := (eL (e4 D.str (eL D.str) (eL D.str) (eL (eL D.int))))) (P := fun (v_rows_here : (List (Str × (List Str) × (List Str) × (List (List Int))))) => [some ((eL D.int) v_script), some (D.int v_at), some (D.int v_most), some (D.int v_top), some (D.int v_count), some ((eL D.str) v_names), some ((eL (e4 D.str (eL D.str) (eL D.str) (eL (eL D.int)))) v_rows_here), none, none, none, none, none, none, none, none, none, none, none]) (by exact (SP.se (ea := (eL (e4 D.str (eL D.str) (eL D.str) (eL (eL D.int))))) (x := ([] : (List (Str × (List Str) × (List Str) × (List (List Int)))))) (sp_lst sa_nil)))) (fun (v_rows_here : (List (Str × (List Str) × (List Str) × (List (List Int))))) => (sx_seq (sn_asg (i := 7) (ea := (eDS D.int)) (P := fun (v_sizes : (List (Str × Int))) => [some ((eL D.int) v_script), some (D.int v_at), some (D.int v_most), some (D.int v_top), some (D.int v_count), some ((eL D.str) v_names), some ((eL (e4 D.str (eL D.str) (eL D.str) (eL (eL D.int)))) v_rows_here), some ((eDS D.int) v_sizes), none, none, none, none, none, none, none, none, none, none]) (by exact (SP.se (ea := (eDS D.int)) (x := ([] : (List (Str × Int)))) sp_c))) (fun (v_sizes : (List (Str × Int))) => (sx_seq (sn_asg (i := 8) (ea := D.int) (P := fun (v_total : Int) => [some ((eL D.int) v_script), some (D.int v_at), some (D.int v_most), some (D.int v_top), some (D.int v_count), some ((eL D.str) v_names), some ((eL (e4 D.str (eL D.str) (eL D.str) (eL (eL D.int)))) v_rows_here), some ((eDS D.int) v_sizes), some (D.int v_total), none, none, none, none, none, none, none, none, none]) (by exact (SP.se (ea := D.int) (x := (1 : Int)) sp_c))) (fun (v_total : Int) => (sx_seq (sn_asg (i := 9) (ea := D.int) (P := fun (v_spot : Int) => [some ((eL D.int) v_script), some (D.int v_at), some (D.int v_most), some (D.int v_top), some (D.int v_count), some ((eL D.str) v_names), some ((eL (e4 D.str (eL D.str) (eL D.str) (eL (eL D.int)))) v_rows_here), some ((eDS D.int) v_sizes), some (D.int v_total), some (D.int v_spot), none, none, none, none, none, none, none, none]) (by exact (SP.se (ea := D.int) (x := ((v_at + (2 : Int)) + ((2 : Int) * v_count))) (sp_op (k := gAdd) (d := D.int ((v_at + (2 : Int)) + ((2 : Int) * v_count))) rfl (sp_op (k := gAdd) (d := D.int (v_at + (2 : Int))) rfl (sp_var (i := 1)) sp_c) (sp_op (d := .int ((2 : Int) * v_count)) (g_mulL 2 v_count) sp_c (sp_var (i := 4))))))) (fun (v_spot : Int) => (sx_seq (sn_for (P := fun (s1 : ((List (Str × (List Str) × (List Str) × (List (List Int)))) × (List (Str × Int)) × Int × Int)) => [some ((eL D.int) v_script), some (D.int v_at), some (D.int v_most), some (D.int v_top), some (D.int v_count), some ((eL D.str) v_names), some ((eL (e4 D.str (eL D.str) (eL D.str) (eL (eL D.int)))) s1.1), some ((eDS D.int) s1.2.1), some (D.int s1.2.2.1), some (D.int s1.2.2.2), none, none, none, none, none, none, none, none]) (Pt := fun (s1 : ((List (Str × (List Str) × (List Str) × (List (List Int)))) × (List (Str × Int)) × Int × Int)) (a2 : Int) => [some ((eL D.int) v_script), some (D.int v_at), some (D.int v_most), some (D.int v_top), some (D.int v_count), some ((eL D.str) v_names), some ((eL (e4 D.str (eL D.str) (eL D.str) (eL (eL D.int)))) s1.1), some ((eDS D.int) s1.2.1), some (D.int s1.2.2.1), some (D.int s1.2.2.2), some (D.int a2), none, none, none, none, none, none, none]) (st := (T_law_rows_b2 v_script v_at v_top v_count v_names)) (v_rows_here, v_sizes, v_total, v_spot) (si_rng1 (fs := aNil) (SP.se (ea := D.int) (x := v_count) (sp_var (i := 4)))) (by exact And.intro rfl (And.intro rfl (And.intro rfl (And.intro rfl (And.intro rfl (And.intro rfl (And.intro rfl (And.intro rfl (And.intro rfl (And.intro rfl (trivial))))))))))) (fun _ => tg_name) (fun s1 a2 => by unfold T_law_rows_b2; exact (sn_seq (sn_unp (P := fun (y3 : ((List Str) × (List Str) × Int)) => [some ((eL D.int) v_script), some (D.int v_at), some (D.int v_most), some (D.int v_top), some (D.int v_count), some ((eL D.str) v_names), some ((eL (e4 D.str (eL D.str) (eL D.str) (eL (eL D.int)))) s1.1), some ((eDS D.int) s1.2.1), some (D.int s1.2.2.1), some (D.int s1.2.2.2), some (D.int a2), none, none, none, some ((eL D.str) y3.1), some ((eL D.str) y3.2.1), some (D.int y3.2.2), none]) (by exact (se_callE (T := fun (t : ((List Int) × Int × Int × (List Str) × Int × Unit)) => T_law_shape t.1 t.2.1 t.2.2.1 t.2.2.2.1 t.2.2.2.2.1) (sa_consE (SP.se (ea := (eL D.int)) (x := v_script) (sp_var (i := 0))) (sa_consE (SP.se (ea := D.int) (x := v_at) (sp_var (i := 1))) (sa_consE (SP.se (ea := D.int) (x := a2) (sp_var (i := 10))) (sa_consE (SP.se (ea := (eL D.str)) (x := v_names) (sp_var (i := 5))) (sa_consE (se_op (k := gFdiv) (ea := D.int) (eb := D.int) (ec := D.int) (h := fun x y => divR x y) (fun x y => k_fdiv x y) (SP.se (ea := D.int) (x := v_top) (sp_var (i := 3))) (se_op (k := gMul) (ea := D.int) (eb := D.int) (ec := D.int) (h := fun x y => mulR x y) (fun x y => k_mul x y) (SP.se (ea := D.int) (x := s1.2.2.1) (sp_var (i := 8))) (se_opP (k := gShl) (ec := D.int) (k_shl (1 : Int) ((v_count - a2) - (1 : Int))) sp_c (sp_op (k := gSub) (d := D.int ((v_count - a2) - (1 : Int))) rfl (sp_op (k := gSub) (d := D.int (v_count - a2)) rfl (sp_var (i := 4)) (sp_var (i := 10))) sp_c)))) sa_nilE))))) (fun t => sim_law_shape t.1 t.2.1 t.2.2.1 t.2.2.2.1 t.2.2.2.2.1))) (fun _ _ he => ⟨_, rfl, (((he.set 14).set 15).set 16)⟩)) (fun (y3 : ((List Str) × (List Str) × Int)) => (sn_seq (sn_dput (i := 7) (l := s1.2.1) (f := D.int) (P := fun (v_sizes : (List (Str × Int))) => [some ((eL D.int) v_script), some (D.int v_at), some (D.int v_most), some (D.int v_top), some (D.int v_count), some ((eL D.str) v_names), some ((eL (e4 D.str (eL D.str) (eL D.str) (eL (eL D.int)))) s1.1), some ((eDS D.int) v_sizes), some (D.int s1.2.2.1), some (D.int s1.2.2.2), some (D.int a2), none, none, none, some ((eL D.str) y3.1), some ((eL D.str) y3.2.1), some (D.int y3.2.2), none]) key_S rfl (by exact (SP.se (ea := D.int) (x := (y3.1.length : Int)) (sp_b (k := gLen) (d := D.int (y3.1.length : Int)) (sa_cons (d := ((eL D.str) y3.1)) (sp_var (i := 14)) sa_nil) (g_lenL _)))) (by exact (se_ixP (ec := D.str) (k_atL v_names a2) (sp_var (i := 5)) (sp_var (i := 10))))) (fun (v_sizes : (List (Str × Int))) => (sn_seq (sn_asg (i := 8) (ea := D.int) (P := fun (v_total : Int) => [some ((eL D.int) v_script), some (D.int v_at), some (D.int v_most), some (D.int v_top), some (D.int v_count), some ((eL D.str) v_names), some ((eL (e4 D.str (eL D.str) (eL D.str) (eL (eL D.int)))) s1.1), some ((eDS D.int) v_sizes), some (D.int v_total), some (D.int s1.2.2.2), some (D.int a2), none, none, none, some ((eL D.str) y3.1), some ((eL D.str) y3.2.1), some (D.int y3.2.2), none]) (by exact (se_opP (k := gMul) (ec := D.int) (k_mul s1.2.2.1 (y3.1.length : Int)) (sp_var (i := 8)) (sp_b (k := gLen) (d := D.int (y3.1.length : Int)) (sa_cons (d := ((eL D.str) y3.1)) (sp_var (i := 14)) sa_nil) (g_lenL _))))) (fun (v_total : Int) => (sn_seq (sn_asg (i := 11) (ea := D.int) (P := fun (v_turns : Int) => [some ((eL D.int) v_script), some (D.int v_at), some (D.int v_most), some (D.int v_top), some (D.int v_count), some ((eL D.str) v_names), some ((eL (e4 D.str (eL D.str) (eL D.str) (eL (eL D.int)))) s1.1), some ((eDS D.int) v_sizes), some (D.int v_total), some (D.int s1.2.2.2), some (D.int a2), some (D.int v_turns), none, none, some ((eL D.str) y3.1), some ((eL D.str) y3.2.1), some (D.int y3.2.2), none]) (by exact (SP.se (ea := D.int) (x := (1 : Int)) sp_c))) (fun (v_turns : Int) => (sn_seq (sn_for (P := fun (s4 : Int) => [some ((eL D.int) v_script), some (D.int v_at), some (D.int v_most), some (D.int v_top), some (D.int v_count), some ((eL D.str) v_names), some ((eL (e4 D.str (eL D.str) (eL D.str) (eL (eL D.int)))) s1.1), some ((eDS D.int) v_sizes), some (D.int v_total), some (D.int s1.2.2.2), some (D.int a2), some (D.int s4), none, none, some ((eL D.str) y3.1), some ((eL D.str) y3.2.1), some (D.int y3.2.2), none]) (Pt := fun (s4 : Int) (a5 : Str) => [some ((eL D.int) v_script), some (D.int v_at), some (D.int v_most), some (D.int v_top), some (D.int v_count), some ((eL D.str) v_names), some ((eL (e4 D.str (eL D.str) (eL D.str) (eL (eL D.int)))) s1.1), some ((eDS D.int) v_sizes), some (D.int v_total), some (D.int s1.2.2.2), some (D.int a2), some (D.int s4), some (D.str a5), none, some ((eL D.str) y3.1), some ((eL D.str) y3.2.1), some (D.int y3.2.2), none]) (st := (T_law_rows_b1 v_sizes)) v_turns (si_lst (ea := D.str) (SP.se (ea := (eL D.str)) (x := y3.2.1) (sp_var (i := 15)))) (by exact And.intro rfl (And.intro rfl (And.intro rfl (And.intro rfl (And.intro rfl (And.intro rfl (And.intro rfl (And.intro rfl (And.intro rfl (And.intro rfl (And.intro rfl (And.intro rfl (And.intro rfl (And.intro rfl (And.intro rfl (trivial)))))))))))))))) (fun _ => tg_name) (fun s4 a5 => by unfold T_law_rows_b1; exact (sn_yield (P := fun (s4 : Int) => [some ((eL D.int) v_script), some (D.int v_at), some (D.int v_most), some (D.int v_top), some (D.int v_count), some ((eL D.str) v_names), some ((eL (e4 D.str (eL D.str) (eL D.str) (eL (eL D.int)))) s1.1), some ((eDS D.int) v_sizes), some (D.int v_total), some (D.int s1.2.2.2), some (D.int a2), some (D.int s4), none, none, some ((eL D.str) y3.1), some ((eL D.str) y3.2.1), some (D.int y3.2.2), none]) (sn_asg (i := 11) (ea := D.int) (P := fun (v_turns : Int) => [some ((eL D.int) v_script), some (D.int v_at), some (D.int v_most), some (D.int v_top), some (D.int v_count), some ((eL D.str) v_names), some ((eL (e4 D.str (eL D.str) (eL D.str) (eL (eL D.int)))) s1.1), some ((eDS D.int) v_sizes), some (D.int v_total), some (D.int s1.2.2.2), some (D.int a2), some (D.int v_turns), some (D.str a5), none, some ((eL D.str) y3.1), some ((eL D.str) y3.2.1), some (D.int y3.2.2), none]) (by exact (se_op (k := gMul) (ea := D.int) (eb := D.int) (ec := D.int) (h := fun x y => mulR x y) (fun x y => k_mul x y) (SP.se (ea := D.int) (x := s4) (sp_var (i := 11))) (se_dgetP (f := D.int) (l := v_sizes) (k := a5) key_S (sp_var (i := 7)) (sp_var (i := 12)))))) (fun (v_turns : Int) => v_turns) (fun (v_turns : Int) => by exact And.intro rfl (And.intro rfl (And.intro rfl (And.intro rfl (And.intro rfl (And.intro rfl (And.intro rfl (And.intro rfl (And.intro rfl (And.intro rfl (And.intro rfl (And.intro rfl (And.intro rfl (And.intro rfl (And.intro rfl (trivial))))))))))))))))))) (fun (v_turns : Int) => (sn_seq (sn_asg (i := 13) (ea := (eL (eL D.int))) (P := fun (v_table : (List (List Int))) => [some ((eL D.int) v_script), some (D.int v_at), some (D.int v_most), some (D.int v_top), some (D.int v_count), some ((eL D.str) v_names), some ((eL (e4 D.str (eL D.str) (eL D.str) (eL (eL D.int)))) s1.1), some ((eDS D.int) v_sizes), some (D.int v_total), some (D.int s1.2.2.2), some (D.int a2), some (D.int v_turns), none, some ((eL (eL D.int)) v_table), some ((eL D.str) y3.1), some ((eL D.str) y3.2.1), some (D.int y3.2.2), none]) (by exact (se_comp (Pt := fun (a6 : Int) => [some ((eL D.int) v_script), some (D.int v_at), some (D.int v_most), some (D.int v_top), some (D.int v_count), some ((eL D.str) v_names), some ((eL (e4 D.str (eL D.str) (eL D.str) (eL (eL D.int)))) s1.1), some ((eDS D.int) v_sizes), some (D.int v_total), some (D.int s1.2.2.2), some (D.int a2), some (D.int v_turns), none, none, some ((eL D.str) y3.1), some ((eL D.str) y3.2.1), some (D.int y3.2.2), some (D.int a6)]) (si_rng1 (fs := aNil) (SP.se (ea := D.int) (x := v_turns) (sp_var (i := 11)))) (TGs.le (p' := [some ((eL D.int) v_script), some (D.int v_at), some (D.int v_most), some (D.int v_top), some (D.int v_count), some ((eL D.str) v_names), some ((eL (e4 D.str (eL D.str) (eL D.str) (eL (eL D.int)))) s1.1), some ((eDS D.int) v_sizes), some (D.int v_total), some (D.int s1.2.2.2), some (D.int a2), some (D.int v_turns), none, none, some ((eL D.str) y3.1), some ((eL D.str) y3.2.1), some (D.int y3.2.2), none]) ((show PLe [some ((eL D.int) v_script), some (D.int v_at), some (D.int v_most), some (D.int v_top), some (D.int v_count), some ((eL D.str) v_names), some ((eL (e4 D.str (eL D.str) (eL D.str) (eL (eL D.int)))) s1.1), some ((eDS D.int) v_sizes), some (D.int v_total), some (D.int s1.2.2.2), some (D.int a2), some (D.int v_turns), none, none, some ((eL D.str) y3.1), some ((eL D.str) y3.2.1), some (D.int y3.2.2), none] _ by exact And.intro rfl (And.intro rfl (And.intro rfl (And.intro rfl (And.intro rfl (And.intro rfl (And.intro rfl (And.intro rfl (And.intro rfl (And.intro rfl (And.intro rfl (And.intro rfl (And.intro rfl (And.intro rfl (And.intro rfl (trivial))))))))))))))))) tg_name) (fun a6 => (by exact (SCp.sc sc_true))) (fun a6 => (by exact (se_callE (T := fun (t : (Int × Int × Int × Unit)) => T_law_cuts t.1 t.2.1 t.2.2.1) (sa_consE (se_call (sa_cons (d := ((eL D.int) v_script)) (sp_var (i := 0)) (sa_cons (d := (D.int (s1.2.2.2 + a6))) (sp_op (k := gAdd) (d := D.int (s1.2.2.2 + a6)) rfl (sp_var (i := 9)) (sp_var (i := 17))) sa_nil)) (sim_law_cell v_script (s1.2.2.2 + a6))) (sa_consE (SP.se (ea := D.int) (x := (y3.1.length : Int)) (sp_b (k := gLen) (d := D.int (y3.1.length : Int)) (sa_cons (d := ((eL D.str) y3.1)) (sp_var (i := 14)) sa_nil) (g_lenL _))) (sa_consE (SP.se (ea := D.int) (x := y3.2.2) (sp_var (i := 16))) sa_nilE))) (fun t => sim_law_cuts t.1 t.2.1 t.2.2.1))))))) (fun (v_table : (List (List Int))) => (sn_seq (sn_asg (i := 9) (ea := D.int) (P := fun (v_spot : Int) => [some ((eL D.int) v_script), some (D.int v_at), some (D.int v_most), some (D.int v_top), some (D.int v_count), some ((eL D.str) v_names), some ((eL (e4 D.str (eL D.str) (eL D.str) (eL (eL D.int)))) s1.1), some ((eDS D.int) v_sizes), some (D.int v_total), some (D.int v_spot), some (D.int a2), some (D.int v_turns), none, some ((eL (eL D.int)) v_table), some ((eL D.str) y3.1), some ((eL D.str) y3.2.1), some (D.int y3.2.2), none]) (by exact (SP.se (ea := D.int) (x := (s1.2.2.2 + v_turns)) (sp_op (k := gAdd) (d := D.int (s1.2.2.2 + v_turns)) rfl (sp_var (i := 9)) (sp_var (i := 11)))))) (fun (v_spot : Int) => (sn_yield (P := fun (s1 : ((List (Str × (List Str) × (List Str) × (List (List Int)))) × (List (Str × Int)) × Int × Int)) => [some ((eL D.int) v_script), some (D.int v_at), some (D.int v_most), some (D.int v_top), some (D.int v_count), some ((eL D.str) v_names), some ((eL (e4 D.str (eL D.str) (eL D.str) (eL (eL D.int)))) s1.1), some ((eDS D.int) s1.2.1), some (D.int s1.2.2.1), some (D.int s1.2.2.2), none, none, none, none, none, none, none, none]) (sn_app (i := 6) (l := s1.1) (ea := (e4 D.str (eL D.str) (eL D.str) (eL (eL D.int)))) (P := fun (v_rows_here : (List (Str × (List Str) × (List Str) × (List (List Int))))) => [some ((eL D.int) v_script), some (D.int v_at), some (D.int v_most), some (D.int v_top), some (D.int v_count), some ((eL D.str) v_names), some ((eL (e4 D.str (eL D.str) (eL D.str) (eL (eL D.int)))) v_rows_here), some ((eDS D.int) v_sizes), some (D.int v_total), some (D.int v_spot), some (D.int a2), some (D.int v_turns), none, some ((eL (eL D.int)) v_table), some ((eL D.str) y3.1), some ((eL D.str) y3.2.1), some (D.int y3.2.2), none]) rfl (se_tup (ea := (e4 D.str (eL D.str) (eL D.str) (eL (eL D.int)))) (T := fun (t : (Str × (List Str) × (List Str) × (List (List Int)) × Unit)) => (t.1, t.2.1, t.2.2.1, t.2.2.2.1)) (sa_consE (se_ixP (ec := D.str) (k_atL v_names a2) (sp_var (i := 5)) (sp_var (i := 10))) (sa_consE (SP.se (ea := (eL D.str)) (x := y3.1) (sp_var (i := 14))) (sa_consE (SP.se (ea := (eL D.str)) (x := y3.2.1) (sp_var (i := 15))) (sa_consE (SP.se (ea := (eL (eL D.int))) (x := v_table) (sp_var (i := 13))) sa_nilE)))) (fun _ => rfl))) (fun (v_rows_here : (List (Str × (List Str) × (List Str) × (List (List Int))))) => (v_rows_here, v_sizes, v_total, v_spot)) (fun (v_rows_here : (List (Str × (List Str) × (List Str) × (List (List Int))))) => by exact And.intro rfl (And.intro rfl (And.intro rfl (And.intro rfl (And.intro rfl (And.intro rfl (And.intro rfl (And.intro rfl (And.intro rfl (And.intro rfl (trivial)))))))))))))))))))))))))))) (fun (y7 : ((List (Str × (List Str) × (List Str) × (List (List Int)))) × (List (Str × Int)) × Int × Int)) => (sx_ret (by exact (SP.se (ea := (eL (e4 D.str (eL D.str) (eL D.str) (eL (eL D.int))))) (x := y7.1) (sp_var (i := 6)))))))))))))))))))) (And.intro rfl (And.intro rfl (And.intro rfl (And.intro rfl (trivial)))))
theorem T_law_words_ok (c m : Int) (h0 : 0 ≤ m) (h1 : m ≤ 8) : ∃ ws : List Str, T_law_words c m = .ok ws ∧ ws.length = m.toNat ∧ ws.Nodup ∧ ∀ w ∈ ws, isW w = true := by
  unfold T_law_words
  by_cases h3 : c % 3 = 0
  · have i0 := Int.emod_nonneg (c / 3) (show (26 : Int) ≠ 0 by decide)
    have i1 := Int.emod_lt_of_pos (c / 3) (show (0 : Int) < 26 by decide)
    have cs : ∀ k : Int, 0 ≤ k → k < 8 → (repS (lt (c / 3 % 26)) (k + 1)).cps.toList = List.replicate (k + 1).toNat (abc.getD (c / 3 % 26).toNat 0) := fun k _ _ => by
      rw [repS_list]
      show (List.replicate _ [abc.getD (c / 3 % 26).toNat 0]).flatten = _
      rw [List.flatten_replicate_singleton]
    have e := cmpR_map (g := fun a1 => ((atSR "abcdefghijklmnopqrstuvwxyz" (c / 3 % 26)).bind fun x => (R.ok (a1 + 1)).bind fun y => mulSR x y)) (f := fun a => repS (lt (c / 3 % 26)) (a + 1)) (l := rng 0 m) fun a ha => by
      have := rng_mem ha
      rw [atS_abc i0 i1]
      simp only [R.bind_ok]
      exact if_pos ⟨by omega, by omega, by show 1 * _ ≤ _; rw [sizeLine_eq]; omega⟩
    simp only [R.bind_ok] at e
    refine ⟨(rng 0 m).map fun a => repS (lt (c / 3 % 26)) (a + 1), by simp only [h3, decide_true, R.bind_ok, if_true, rngR1_ok (show -1000000000 ≤ m by omega) (by omega), e, fitN_ok (show ((rng 0 m).map fun a => repS (lt (c / 3 % 26)) (a + 1)).length ≤ sizeLine by rw [List.length_map, rng_len, sizeLine_eq]; omega)], ?_, ?_, ?_⟩
    · rw [List.length_map, rng_len]; omega
    · refine nodup_map_of (rng_nodup _ _) fun a ha b hb hab => ?_
      have := rng_mem ha
      have := rng_mem hb
      have h : (repS (lt (c / 3 % 26)) (a + 1)).cps.toList.length = (repS (lt (c / 3 % 26)) (b + 1)).cps.toList.length := congrArg (fun z : Str => z.cps.toList.length) hab
      rw [cs a (by omega) (by omega), cs b (by omega) (by omega), List.length_replicate, List.length_replicate] at h
      omega
    · intro w hw
      obtain ⟨a, ha, rfl⟩ := List.mem_map.mp hw
      have := rng_mem ha
      refine isW_of (cs a (by omega) (by omega)) (by rw [List.length_replicate]; omega) (by rw [List.length_replicate]; omega) fun x hx => ?_
      rw [List.eq_of_mem_replicate hx]
      exact lt_mem i0 i1
  · have s0 := Int.emod_nonneg (c / 3) (show (8 : Int) ≠ 0 by decide)
    have s1 := Int.emod_lt_of_pos (c / 3) (show (0 : Int) < 8 by decide)
    obtain ⟨ss, st, e1, e2, e3, e4, e5⟩ := stem_ok (fun a => c / 24 + (a + 1) * (a + 5)) (c / 3 % 8) s0 (by omega)
    have mk : ∀ a ∈ rng 0 (c / 3 % 8), (fun (a2 : Int) => ((R.ok ("abcdefghijklmnopqrstuvwxyz" : Str)).bind fun x => (((R.ok (c / 24)).bind fun x => (mulR (a2 + 1) (a2 + 5)).bind fun y => R.ok (x + y)).bind fun x => R.ok (x % 26)).bind fun y => atSR x y)) a = atSR "abcdefghijklmnopqrstuvwxyz" ((c / 24 + (a + 1) * (a + 5)) % 26) := fun a ha => by
      have := rng_mem ha
      simp only [R.bind_ok, mulR_ok (show IntMulOk (a + 1) (a + 5) from mulOk_left (by omega) (by omega))]
    have e1' : cmpR (fun _ => R.ok true) (fun (a2 : Int) => ((R.ok ("abcdefghijklmnopqrstuvwxyz" : Str)).bind fun x => (((R.ok (c / 24)).bind fun x => (mulR (a2 + 1) (a2 + 5)).bind fun y => R.ok (x + y)).bind fun x => R.ok (x % 26)).bind fun y => atSR x y)) (rng 0 (c / 3 % 8)) = .ok ss := by
      rw [← e1]
      have gen : ∀ (l : List Int) (g g' : Int → R Str), (∀ a ∈ l, g a = g' a) → cmpR (fun _ => R.ok true) g l = cmpR (fun _ => R.ok true) g' l := fun l g g' h => by
        induction l with
        | nil => rfl
        | cons a l ih => rw [cmpR, cmpR, h a (by simp), ih fun b hb => h b (by simp [hb])]
      exact gen _ _ _ mk
    simp only [R.bind_ok] at e1'
    have a0 := Int.emod_nonneg (c / 48) (show (c / 3 % 8 + 1) ≠ 0 by omega)
    have a1 := Int.emod_lt_of_pos (c / 48) (show (0 : Int) < c / 3 % 8 + 1 by omega)
    have wk : ∀ a ∈ rng 0 m, _ := fun a (ha : a ∈ rng 0 m) => word_ok (st := st) (at_ := c / 48 % (c / 3 % 8 + 1)) (j := (c / 624 + 3 * a) % 26) (by omega) e5 a0 (by omega) (Int.emod_nonneg _ (by decide)) (Int.emod_lt_of_pos _ (by decide))
    have e6 := cmpR_map (l := rng 0 m) fun a ha => (wk a ha).1
    refine ⟨(rng 0 m).map fun a => wordAt st.cps.toList (c / 48 % (c / 3 % 8 + 1)).toNat (abc.getD ((c / 624 + 3 * a) % 26).toNat 0), by simp only [h3, decide_false, R.bind_ok, Bool.false_eq_true, if_false, rngR1_ok (show -1000000000 ≤ c / 3 % 8 by omega) (show c / 3 % 8 ≤ 1000000000 by omega), e1', fitN_ok e2, e3, modR_ok (show (0 : Int) < c / 3 % 8 + 1 by omega), rngR1_ok (show -1000000000 ≤ m by omega) (show m ≤ 1000000000 by omega), e6, fitN_ok (show ((rng 0 m).map fun a => wordAt st.cps.toList (c / 48 % (c / 3 % 8 + 1)).toNat (abc.getD ((c / 624 + 3 * a) % 26).toNat 0)).length ≤ sizeLine by rw [List.length_map, rng_len, sizeLine_eq]; omega)], ?_, ?_, ?_⟩
    · rw [List.length_map, rng_len]; omega
    · refine nodup_map_of (rng_nodup _ _) fun a ha b hb hab => ?_
      have := rng_mem ha
      have := rng_mem hb
      have h := wordAt_inj (by rw [← len_cps]; omega) hab
      have h := lt_inj (Int.emod_nonneg _ (by decide)) (Int.emod_lt_of_pos _ (by decide)) (Int.emod_nonneg _ (by decide)) (Int.emod_lt_of_pos _ (by decide)) h
      exact mod26_inj (by omega) (by omega) (by omega) (by omega) h
    · intro w hw
      obtain ⟨a, ha, rfl⟩ := List.mem_map.mp hw
      exact (wk a ha).2
theorem T_law_cuts_ok (c size many : Int) (h0 : 1 ≤ size) (h1 : size ≤ 100) (hm : 0 ≤ many) : ∃ row : List Int, T_law_cuts c size many = .ok row ∧ (row.length : Int) = size ∧ (∀ x ∈ row, 0 ≤ x) ∧ row.sum = many := by
  unfold T_law_cuts
  simp only [R.bind_ok, rngR1_ok (show -1000000000 ≤ size - 1 by omega) (show size - 1 ≤ 1000000000 by omega)]
  obtain ⟨s, e, i1, i2, i3, i4, i5⟩ := foldR_inv (f := T_law_cuts_b1 c) (fun (rem : List Int) (s : List Int × Int) => (s.1.length : Int) + (rem.length : Int) = size - 1 ∧ (∀ a ∈ rem, 0 ≤ a ∧ a < size) ∧ (∀ x ∈ s.1, 0 ≤ x) ∧ s.1.sum + s.2 = many ∧ 0 ≤ s.2) (rng 0 (size - 1)) ([], many) ⟨by rw [rng_len]; show (0 : Int) + _ = _; omega, fun a ha => by have := rng_mem ha; omega, fun x hx => (nomatch hx), by show (0 : Int) + many = many; omega, hm⟩ fun a rem s ⟨j1, j2, j3, j4, j5⟩ => by
    obtain ⟨nums, left⟩ := s
    simp only at j1 j3 j4 j5
    have ja := j2 a (by simp)
    have hl : left + 1 > 0 := by omega
    have one : ∃ o : Int, 0 ≤ o ∧ o ≤ left ∧ T_law_cuts_b1 c (nums, left) a = .ok (nums ++ [o], left - o) := by
      unfold T_law_cuts_b1
      have a7 : IntMulOk (7 * a) a := mulOk_left (by omega) (by omega)
      have sq : 0 ≤ 7 * a * a ∧ 7 * a * a ≤ 700 * 100 := ⟨Int.mul_nonneg (by omega) (by omega), Int.mul_le_mul (by omega) (by omega) (by omega) (by omega)⟩
      have mo : IntMulOk c (48271 + 7 * a * a) := mulOk_right (by omega) (by omega)
      have ap : nums.length < sizeLine := by rw [sizeLine_eq]; simp only [List.length_cons] at j1; omega
      simp only [R.bind_ok, mulR_ok a7, mulR_ok mo, modR_ok hl]
      by_cases h3 : c % 3 = 0
      · have dv : CDivP c (3 + a) := divP_small (by omega) (by omega)
        have q0 := Int.emod_nonneg (c / (3 + a)) (show (2 : Int) ≠ 0 by decide)
        have q1 := Int.emod_lt_of_pos (c / (3 + a)) (show (0 : Int) < 2 by decide)
        obtain ⟨o, ho, _, eo⟩ := atR_ex (l := [(0 : Int), left]) q0 q1
        refine ⟨o, ?_, ?_, ?_⟩
        · simp at ho; omega
        · simp at ho; omega
        · simp only [h3, decide_true, if_true, divR_ok dv, R.bind_ok, eo, appR_ok ap]
      · refine ⟨c * (48271 + 7 * a * a) % 2147483647 % (left + 1), Int.emod_nonneg _ (by omega), ?_, ?_⟩
        · have := Int.emod_lt_of_pos (c * (48271 + 7 * a * a) % 2147483647) hl
          omega
        · simp only [h3, decide_false, Bool.false_eq_true, if_false, R.bind_ok, appR_ok ap]
    obtain ⟨o, o0, o1, eo⟩ := one
    refine ⟨_, eo, ?_, fun b hb => j2 b (by simp [hb]), ?_, ?_, ?_⟩
    · simp only [List.length_cons] at j1
      simp only [List.length_append, List.length_singleton]
      omega
    · intro x hx
      simp only [List.mem_append, List.mem_singleton] at hx
      rcases hx with hx | rfl
      · exact j3 x hx
      · exact o0
    · simp only [List.sum_append, List.sum_singleton]
      omega
    · simp only
      omega
  rw [e, R.bind_ok]
  simp only [List.length_nil] at i1
  refine ⟨s.1 ++ [s.2], catR_ok (by rw [sizeLine_eq]; simp; omega), ?_, ?_, ?_⟩
  · simp only [List.length_append, List.length_singleton]; omega
  · intro x hx
    simp only [List.mem_append, List.mem_singleton] at hx
    rcases hx with hx | rfl
    · exact i3 x hx
    · exact i5
  · simp only [List.sum_append, List.sum_singleton]; omega
theorem shl1_ok {a : Int} (h0 : 0 ≤ a) (h1 : a ≤ 60) : shlR 1 a = .ok (2 ^ a.toNat) := by
  unfold shlR
  rw [if_pos ⟨h0, by have : (Builtin.Int.intBits 1 : Int) = 1 := by decide
                     omega⟩, Int.one_mul]
theorem two_pow_le {n m : Nat} (h : n ≤ m) : (2 : Int) ^ n ≤ 2 ^ m := by
  have := Nat.pow_le_pow_right (show 0 < 2 by decide) h
  have h2 : ((2 ^ n : Nat) : Int) ≤ ((2 ^ m : Nat) : Int) := by omega
  simpa using h2
structure ElOk (names : List Str) (k : Nat) (es : List Str) : Prop where
  len : es.length ≤ 3
  nd : es.Nodup
  mem : ∀ e ∈ es, e ∈ names.take k
theorem ElOk.perm {names : List Str} {k : Nat} {es fs : List Str} (h : ElOk names k es) (p : fs.Perm es) : ElOk names k fs := ⟨by rw [p.length_eq]; exact h.len, p.nodup_iff.mpr h.nd, fun e he => h.mem e (p.mem_iff.mp he)⟩
structure ShapeOk (names : List Str) (k : Nat) (room : Int) (y : List Str × List Str × Int) : Prop where
  vl : 2 ≤ y.1.length ∧ y.1.length ≤ 4
  vr : y.1.length = 2 ∨ (y.1.length : Int) ≤ room
  vn : y.1.Nodup
  vw : ∀ v ∈ y.1, isW v = true
  el : ElOk names k y.2.1
  mn : 1 ≤ y.2.2 ∧ y.2.2 ≤ 1000000000
theorem bindP {α β : Type} {x : R α} {f : α → R β} (P : α → Prop) {Q : β → Prop} (h : ∃ a, x = .ok a ∧ P a) (k : ∀ a, P a → ∃ b, f a = .ok b ∧ Q b) : ∃ b, x.bind f = .ok b ∧ Q b := by
  obtain ⟨a, e, p⟩ := h
  rw [e, R.bind_ok]
  exact k a p
theorem T_law_shape_ok (ns : List Int) (at_ k room : Int) (names : List Str) (k0 : 0 ≤ k) (k1 : k ≤ 10) (hn : k ≤ names.length) (nd : names.Nodup) (a0 : 0 ≤ at_) (a1 : at_ ≤ 1000000) : ∃ y, T_law_shape ns at_ k names room = .ok y ∧ ShapeOk names k.toNat room y := by
  unfold T_law_shape
  rw [T_law_cell_eq ns (by omega) (by omega), R.bind_ok]
  generalize cell ns (at_ + 2 + 2 * k).toNat = sh
  rw [T_law_cell_eq ns (show 0 ≤ at_ + 3 + 2 * k by omega) (by omega), T_law_cell_eq ns (show 0 ≤ at_ + 1 by omega) (by omega)]
  generalize cell ns (at_ + 3 + 2 * k).toNat = ot
  generalize cell ns (at_ + 1).toNat = ba
  refine bindP (fun z : Int => 2 ≤ z ∧ z ≤ 4 ∧ (z = 2 ∨ z ≤ room)) ?_ fun size hs => ?_
  · have q0 := Int.emod_nonneg sh (show (6 : Int) ≠ 0 by decide)
    have q1 := Int.emod_lt_of_pos sh (show (0 : Int) < 6 by decide)
    obtain ⟨o, ho, _, eo⟩ := atR_ex (l := [(0 : Int), 0, 1, 0, 2, 0]) q0 q1
    simp only [eo, R.bind_ok]
    have ho : 0 ≤ o ∧ o ≤ 2 := by simp at ho; omega
    refine ⟨_, rfl, ?_⟩
    by_cases r2 : room > 2
    · rw [if_pos r2]
      by_cases r3 : room < 2 + o
      · rw [if_pos r3]; omega
      · rw [if_neg r3]; omega
    · rw [if_neg r2]
      by_cases r3 : (2 : Int) < 2 + o
      · rw [if_pos r3]; omega
      · rw [if_neg r3]; omega
  refine bindP (ElOk names k.toNat) ?_ fun es he => ?_
  · have e := cmpR_filter (c := fun (a1 : Int) => (((((R.ok (sh / (6 : Int))).bind fun x => (shlR (1 : Int) a1).bind fun y => divR x y).bind fun x => R.ok (x % (2 : Int))).bind fun x => (R.ok (1 : Int)).bind fun y => R.ok (decide (x = y))).bind fun a => if a then (R.ok (decide ((0 : Int) < ((sh / (7 : Int)) % (4 : Int))))) else R.ok false)) (g := fun (a1 : Int) => (atR names a1)) (p := fun a => decide (sh / 6 / 2 ^ a.toNat % 2 = 1) && decide ((0 : Int) < sh / 7 % 4)) (f := fun a => names.getD a.toNat "") (l := rng 0 k) (fun a ha => by
      have := rng_mem ha
      have pw := two_pow_le (n := a.toNat) (m := 10) (by omega)
      have pp : (0 : Int) < 2 ^ a.toNat := Int.pow_pos (by decide)
      have dv : CDivP (sh / 6) (2 ^ a.toNat) := divP_small pp (by omega)
      simp only [R.bind_ok, shl1_ok (show 0 ≤ a by omega) (show a ≤ 60 by omega), divR_ok dv]
      by_cases h : sh / 6 / 2 ^ a.toNat % 2 = 1 <;> simp [h]) (fun a ha _ => by
      have := rng_mem ha
      have hl : a.toNat < names.length := by omega
      rw [atR_of (show 0 ≤ a by omega) (List.getElem?_eq_getElem hl), List.getD_eq_getElem?_getD, List.getElem?_eq_getElem hl]
      rfl)
    simp only [R.bind_ok] at e
    have hlen : (((rng 0 k).filter fun a => decide (sh / 6 / 2 ^ a.toNat % 2 = 1) && decide ((0 : Int) < sh / 7 % 4)).map fun a => names.getD a.toNat "").length ≤ sizeLine := by
      rw [List.length_map]
      have := List.length_filter_le (fun a => decide (sh / 6 / 2 ^ a.toNat % 2 = 1) && decide ((0 : Int) < sh / 7 % 4)) (rng 0 k)
      rw [rng_len] at this
      rw [sizeLine_eq]
      omega
    simp only [R.bind_ok, rngR1_ok (show -1000000000 ≤ k by omega) (show k ≤ 1000000000 by omega), e, fitN_ok hlen]
    refine ⟨_, rfl, ?_⟩
    rw [cutL_take _ (by decide)]
    have at' : ∀ a ∈ rng 0 k, ∃ h : a.toNat < names.length, names.getD a.toNat "" = names[a.toNat] := fun a ha => by
      have := rng_mem ha
      have hl : a.toNat < names.length := by omega
      exact ⟨hl, by rw [List.getD_eq_getElem?_getD, List.getElem?_eq_getElem hl]; rfl⟩
    refine ⟨by rw [List.length_take]; exact Nat.min_le_left _ _, List.Nodup.sublist (List.take_sublist _ _) (nodup_map_of ((rng_nodup _ _).sublist List.filter_sublist) fun a ha b hb hab => ?_), fun x hx => ?_⟩
    · have ha := (List.mem_filter.mp ha).1
      have hb := (List.mem_filter.mp hb).1
      obtain ⟨l1, e1⟩ := at' a ha
      obtain ⟨l2, e2⟩ := at' b hb
      rw [e1, e2] at hab
      have := (List.getElem_inj nd).mp hab
      have := rng_mem ha
      have := rng_mem hb
      omega
    · obtain ⟨a, ha, rfl⟩ := List.mem_map.mp (List.mem_of_mem_take hx)
      have ha := (List.mem_filter.mp ha).1
      obtain ⟨l1, e1⟩ := at' a ha
      have := rng_mem ha
      rw [e1]
      exact List.mem_of_getElem? (i := a.toNat) (by rw [List.getElem?_take_of_lt (by omega)]; exact List.getElem?_eq_getElem l1)
  have mp : (0 : Int) < (if (es.length : Int) > 1 then (es.length : Int) else 1) := by split <;> omega
  rw [modR_ok mp, R.bind_ok]
  have t0 := Int.emod_nonneg (sh / 11) (show (if (es.length : Int) > 1 then (es.length : Int) else 1) ≠ 0 by omega)
  generalize sh / 11 % (if (es.length : Int) > 1 then (es.length : Int) else 1) = tu at *
  refine bindP (ElOk names k.toNat) ?_ fun es2 he2 => ?_
  · simp only [R.bind_ok, cutL_take es t0, cutL_drop es t0]
    have pm : (es.drop tu.toNat ++ es.take tu.toNat).Perm es := List.perm_append_comm.trans (by rw [List.take_append_drop])
    refine ⟨_, catR_ok ?_, he.perm pm⟩
    have := pm.length_eq
    rw [List.length_append] at this
    have := he.len
    rw [sizeLine_eq]
    omega
  refine bindP (ElOk names k.toNat) ?_ fun es3 he3 => ?_
  · rw [R.bind_ok]
    by_cases h : sh / 5 % 2 = 1
    · simp only [h, decide_true, if_true, R.bind_ok, cmpR_id]
      rw [fitN_ok (by rw [List.length_reverse, sizeLine_eq]; have := he2.len; omega)]
      exact ⟨_, rfl, he2.perm (List.reverse_perm _)⟩
    · simp only [h, decide_false, Bool.false_eq_true, if_false, R.bind_ok]
      exact ⟨_, rfl, he2⟩
  rw [R.bind_ok, R.bind_ok]
  have q0 := Int.emod_nonneg (ot / 4) (show (4 : Int) ≠ 0 by decide)
  have q1 := Int.emod_lt_of_pos (ot / 4) (show (0 : Int) < 4 by decide)
  obtain ⟨wc, _, _, ewc⟩ := atR_ex (l := [ba / 7, ba, ot / 12, ot / 16]) q0 q1
  obtain ⟨vs, v1, v2, v3, v4⟩ := T_law_words_ok wc size (by omega) (by omega)
  have p0 := Int.emod_nonneg ot (show (2 : Int) ≠ 0 by decide)
  have p1 := Int.emod_lt_of_pos ot (show (0 : Int) < 2 by decide)
  obtain ⟨md, hmd, _, emd⟩ := atR_ex (l := [(6 : Int), 1000000000]) p0 p1
  have hmd : md = 6 ∨ md = 1000000000 := by simpa using hmd
  simp only [ewc, R.bind_ok, v1, emd, modR_ok (show 0 < md by omega)]
  refine ⟨_, rfl, ⟨by show 2 ≤ vs.length ∧ vs.length ≤ 4; omega, by show vs.length = 2 ∨ (vs.length : Int) ≤ room; omega, v3, v4, he3, ?_⟩⟩
  have m0 := Int.emod_nonneg (ot / 2) (show md ≠ 0 by omega)
  have m1 := Int.emod_lt_of_pos (ot / 2) (show 0 < md by omega)
  show 1 ≤ 1 + ot / 2 % md ∧ 1 + ot / 2 % md ≤ 1000000000
  omega
/-! ### the rows drawn -/
def GoodL (rows : List NRow) : Prop := ∀ (k : Nat) (r : NRow), rows[k]? = some r → GoodR ((rows.take k).map dueE) (waysF 1 (rows.take k)) r ∧ RowSz r
theorem waysF_snoc (w : Int) (rs : List NRow) (r : NRow) : waysF w (rs ++ [r]) = waysF w rs * (r.2.1.length : Int) := by
  unfold waysF
  rw [List.foldl_append]
  rfl
theorem GoodL.take {rows : List NRow} (h : GoodL rows) : ∀ k, goodRows [] 1 (rows.take k)
  | 0 => trivial
  | k + 1 => by
    cases hr : rows[k]? with
    | none =>
      rw [List.getElem?_eq_none_iff] at hr
      rw [List.take_of_length_le (by omega)]
      have := h.take k
      rwa [List.take_of_length_le hr] at this
    | some r =>
      obtain ⟨g, s⟩ := h k r hr
      rw [List.take_add_one, hr]
      exact goodRows_snoc _ _ _ _ (h.take k) s (by rw [List.nil_append]; exact g.step)
theorem GoodL.good {rows : List NRow} (h : GoodL rows) : goodRows [] 1 rows := by
  have := h.take rows.length
  rwa [List.take_length] at this
theorem GoodL.snoc {rows : List NRow} {r : NRow} (h : GoodL rows) (g : GoodR (rows.map dueE) (waysF 1 rows) r) (s : RowSz r) : GoodL (rows ++ [r]) := by
  intro k x hx
  rw [List.getElem?_append] at hx
  split at hx
  · rename_i hk
    rw [List.take_append_of_le_length (by omega)]
    exact h k x hx
  · rename_i hk
    have : k = rows.length := by
      rcases Nat.eq_or_lt_of_le (Nat.le_of_not_lt hk) with e | e
      · exact e.symm
      · rw [List.getElem?_eq_none (by simp; omega)] at hx
        cases hx
    subst this
    rw [Nat.sub_self] at hx
    have hx : r = x := by simpa using hx
    subst hx
    rw [List.take_left]
    exact ⟨g, s⟩
theorem rng_nil {a b : Int} (h : b ≤ a) : rng a b = [] := by
  unfold rng
  rw [show (b - a).toNat = 0 by omega]
  rfl
theorem rng_cons {a b : Int} (h : a < b) : rng a b = a :: rng (a + 1) b := by
  unfold rng
  rw [show (b - a).toNat = (b - (a + 1)).toNat + 1 by omega, List.range_succ_eq_map, List.map_cons, List.map_map]
  congr 1
  · omega
  · refine List.map_congr_left fun i _ => ?_
    show a + ((i + 1 : Nat) : Int) = _
    omega
theorem choices_le {net : List NE} : ∀ (es : List Str) (c : Int), (∀ e ∈ es, (valsOf net e).length ≤ 4) → 0 ≤ c → es.foldl (fun c e => c * ((valsOf net e).length : Int)) c ≤ c * 4 ^ es.length
  | [], c, _, _ => by rw [List.foldl_nil, List.length_nil, Int.pow_zero, Int.mul_one]; exact Int.le_refl _
  | e :: es, c, h, h0 => by
    have hv := h e (by simp)
    have := choices_le es (c * ((valsOf net e).length : Int)) (fun x hx => h x (by simp [hx])) (Int.mul_nonneg h0 (by omega))
    refine Int.le_trans this ?_
    rw [List.length_cons, Int.pow_succ, Int.mul_comm (4 ^ es.length) 4, ← Int.mul_assoc]
    exact Int.mul_le_mul_of_nonneg_right (Int.mul_le_mul_of_nonneg_left (by omega) h0) (Int.le_of_lt (Int.pow_pos (by decide)))
def szs (rows : List NRow) : List (Str × Int) := rows.map fun r => (r.1, (r.2.1.length : Int))
theorem dget_szs {rows more : List NRow} {e : Str} (h : e ∈ rows.map (·.1)) : dgetR (szs (rows ++ more)) e = .ok ((valsOf (rows.map dueE) e).length : Int) := by
  have h' : e ∈ (rows.map dueE).map (·.1) := by rw [List.map_map]; exact h
  obtain ⟨x, _, _, hf⟩ := find_mem h'
  unfold dgetR valD szs valsOf
  rw [hf]
  rw [List.find?_map] at hf
  rw [List.find?_map, List.find?_append]
  have hc : ((fun e_1 : NE => decide (e_1.1 = e)) ∘ dueE) = ((fun kv : Str × Int => decide (kv.1 = e)) ∘ fun r : NRow => (r.1, (r.2.1.length : Int))) := rfl
  rw [hc] at hf
  cases hr : rows.find? ((fun kv : Str × Int => decide (kv.1 = e)) ∘ fun r : NRow => (r.1, (r.2.1.length : Int))) with
  | none => rw [hr] at hf; cases hf
  | some r =>
    rw [hr] at hf
    have : dueE r = x := by simpa using hf
    subst this
    rfl
theorem put_szs {rows : List NRow} {r : NRow} (h : r.1 ∉ rows.map (·.1)) (hl : rows.length < sizeLine) : putN (szs rows) r.1 (r.2.1.length : Int) = .ok (szs (rows ++ [r])) := by
  unfold putN putD
  rw [if_pos (by unfold szs; rw [List.length_map]; exact hl), if_neg]
  · unfold szs
    rw [List.map_append]
    rfl
  · rw [List.any_eq_true]
    rintro ⟨kv, hk, he⟩
    unfold szs at hk
    obtain ⟨x, hx, rfl⟩ := List.mem_map.mp hk
    exact h (List.mem_map.mpr ⟨x, hx, by simpa using he⟩)
theorem rows_turns {rows more : List NRow} (hn : NetSz (rows.map dueE)) : ∀ (es : List Str) (c : Int), (∀ e ∈ es, e ∈ rows.map (·.1)) → foldR (T_law_rows_b1 (szs (rows ++ more))) es c = .ok (es.foldl (fun c e => c * ((valsOf (rows.map dueE) e).length : Int)) c)
  | [], c, _ => rfl
  | e :: es, c, h => by
    have he := h e (by simp)
    have hv := valsOf_len hn (nm := e) (by rw [List.map_map]; exact he)
    rw [foldR, T_law_rows_b1]
    simp only [R.bind_ok, dget_szs he, mulR_ok (show IntMulOk c ((valsOf (rows.map dueE) e).length : Int) from mulOk_right (by omega) (by omega))]
    exact rows_turns hn es _ fun x hx => h x (by simp [hx])
structure RI (names : List Str) (at_ count B : Int) (rem : List Int) (s : List NRow × List (Str × Int) × Int × Int) : Prop where
  rem : rem = rng (s.1.length : Int) count
  le : (s.1.length : Int) ≤ count
  good : GoodL s.1
  nms : s.1.map (·.1) = names.take s.1.length
  sz : s.2.1 = szs s.1
  tot : s.2.2.1 = waysF 1 s.1
  pos : 1 ≤ s.2.2.1
  bnd : s.2.2.1 * 2 ^ (count - s.1.length).toNat ≤ B
  sp0 : 0 ≤ s.2.2.2
  sp1 : s.2.2.2 ≤ at_ + 100 + 64 * s.1.length
theorem rows_step {ns : List Int} {at_ top count B : Int} {names : List Str} (a0 : 0 ≤ at_) (a1 : at_ ≤ 1000000) (c1 : count ≤ 10) (hn : (names.length : Int) = count) (nd : names.Nodup) (nw : ∀ w ∈ names, isW w = true) (hB : B ≤ 4096) (tB : top ≤ B) {a : Int} {l : List Int} {s : List NRow × List (Str × Int) × Int × Int} (h : RI names at_ count B (a :: l) s) : ∃ s', T_law_rows_b2 ns at_ top count names s a = .ok s' ∧ RI names at_ count B l s' := by
  obtain ⟨rows, szz, tot, spot⟩ := s
  obtain ⟨h1, h2, h3, h4, h5, h6, h7, h8, h9, h10⟩ := h
  simp only at h1 h2 h3 h4 h5 h6 h7 h8 h9 h10
  subst h5
  have lt : (rows.length : Int) < count := by
    rcases Int.lt_or_le (rows.length : Int) count with z | z
    · exact z
    · rw [rng_nil z] at h1; cases h1
  rw [rng_cons lt] at h1
  injection h1 with ha hl
  subst ha hl
  generalize hk : rows.length = k at *
  have kn : k < names.length := by omega
  have hnk : names[k]? = some names[k] := List.getElem?_eq_getElem kn
  have new : names[k] ∉ rows.map (·.1) := by
    rw [h4]
    intro hm
    obtain ⟨i, hi, e⟩ := List.getElem_of_mem hm
    rw [List.length_take] at hi
    rw [List.getElem_take] at e
    have := (List.getElem_inj nd).mp e
    omega
  have gd := h3.good
  have ln : rows.length < sizeLine := by rw [hk, sizeLine_eq]; omega
  obtain ⟨_, nsz, w1, w2⟩ := fold_made rows [] 1 [] gd netSz_nil (by simpa using ln) (by decide) (by decide)
  rw [List.nil_append] at nsz
  rw [← h6] at w1 w2
  have pw0 : (0 : Int) < 2 ^ (count - (k : Int) - 1).toNat := Int.pow_pos (by decide)
  have pw1 := two_pow_le (n := (count - (k : Int) - 1).toNat) (m := 10) (by omega)
  have dpos : 0 < tot * 2 ^ (count - (k : Int) - 1).toNat := Int.mul_pos (by omega) pw0
  have dlt : tot * 2 ^ (count - (k : Int) - 1).toNat ≤ 4096 * 1024 := Int.mul_le_mul w2 pw1 (by omega) (by omega)
  obtain ⟨y, ey, sy⟩ := T_law_shape_ok ns at_ (k : Int) (top / (tot * 2 ^ (count - (k : Int) - 1).toNat)) names (by omega) (by omega) (by omega) nd a0 a1
  obtain ⟨vs, es, many⟩ := y
  obtain ⟨vl, vr, vn, vw, ⟨el, en, em⟩, mn⟩ := sy
  simp only at vl vr vn vw el en em mn
  rw [Int.toNat_natCast, ← h4] at em
  have turns := rows_turns (more := [(names[k], vs, es, [])]) nsz es 1 em
  have tlo := (fold_choices (w := 1) nsz es 1 (fun e he => by rw [List.map_map]; exact em e he) (by decide)).2
  have thi := choices_le (net := rows.map dueE) es 1 (fun e he => (valsOf_len nsz (nm := e) (by rw [List.map_map]; exact em e he)).2) (by decide)
  have tp : (4 : Int) ^ es.length ≤ 64 := by
    have : es.length = 0 ∨ es.length = 1 ∨ es.length = 2 ∨ es.length = 3 := by omega
    rcases this with h | h | h | h <;> rw [h] <;> decide
  rw [Int.one_mul] at thi
  generalize ht : es.foldl (fun c e => c * ((valsOf (rows.map dueE) e).length : Int)) 1 = tu at *
  obtain ⟨tb, etb, ltb, qtb⟩ := cmpR_all (g := fun (a6 : Int) => (((T_law_cell ns (spot + a6)).bind fun x => ((R.ok (vs.length : Int)).bind fun x => ((R.ok many).bind fun x => (R.ok ()).bind fun xs => R.ok (x, xs)).bind fun xs => R.ok (x, xs)).bind fun xs => R.ok (x, xs)).bind fun t => T_law_cuts t.1 t.2.1 t.2.2.1)) (Q := fun _ (row : List Int) => (row.length : Int) = (vs.length : Int) ∧ (∀ x ∈ row, 0 ≤ x) ∧ row.sum = many) (l := rng 0 tu) fun a ha => by
    have := rng_mem ha
    simp only [T_law_cell_eq ns (show 0 ≤ spot + a by omega) (show spot + a < 4294967296 by omega), R.bind_ok]
    exact T_law_cuts_ok _ _ _ (by omega) (by omega) (by omega)
  simp only [R.bind_ok] at etb
  rw [rng_len] at ltb
  have qrow : ∀ row ∈ tb, (row.length : Int) = (vs.length : Int) ∧ (∀ x ∈ row, 0 ≤ x) ∧ row.sum = many := fun row hr => by
    obtain ⟨i, hi⟩ := List.getElem?_of_mem hr
    have hil := (List.getElem?_eq_some_iff.mp hi).1
    exact qtb i _ row (List.getElem?_eq_getElem (by rw [rng_len]; omega)) hi
  have hd : (tb.headD []).sum = many := by
    cases tb with
    | nil => simp at ltb; omega
    | cons r0 _ => exact (qrow r0 (by simp)).2.2
  have rs : RowSz (names[k], vs, es, tb) := ⟨isW_sz (nw _ (List.getElem_mem _)), fun v hv => isW_sz (vw v hv), by show tb.length ≤ _; rw [ltb, sizeLine_eq]; omega⟩
  have B2 : tot * (vs.length : Int) * 2 ^ (count - ((k + 1 : Nat) : Int)).toNat ≤ B := by
    rw [show (count - ((k + 1 : Nat) : Int)).toNat = (count - (k : Int) - 1).toNat by omega]
    rcases vr with v2 | v2
    · rw [show (count - (k : Int)).toNat = (count - (k : Int) - 1).toNat + 1 by omega, Int.pow_succ] at h8
      rw [v2, Int.mul_assoc, Int.mul_comm ((2 : Nat) : Int)]
      exact h8
    · have : (vs.length : Int) * (tot * 2 ^ (count - (k : Int) - 1).toNat) ≤ top := by
        have e1 := Int.mul_le_mul_of_nonneg_right v2 (Int.le_of_lt dpos)
        have e2 := Int.ediv_mul_le top (show tot * 2 ^ (count - (k : Int) - 1).toNat ≠ 0 by omega)
        omega
      rw [Int.mul_comm tot, Int.mul_assoc]
      omega
  have B3 : tot * (vs.length : Int) ≤ 4096 := by
    have p : (1 : Int) ≤ 2 ^ (count - ((k + 1 : Nat) : Int)).toNat := by
      have : (0 : Int) < 2 ^ (count - ((k + 1 : Nat) : Int)).toNat := Int.pow_pos (by decide)
      omega
    have := Int.mul_le_mul_of_nonneg_left p (show 0 ≤ tot * (vs.length : Int) from Int.mul_nonneg (by omega) (by omega))
    omega
  have gr : GoodR (rows.map dueE) (waysF 1 rows) (names[k], vs, es, tb) := by
    refine ⟨nw _ (List.getElem_mem _), ?_, vl, List.all_eq_true.mpr vw, vn, el, ?_, en, ?_, ?_⟩
    · rw [List.map_map]; exact new
    · rw [List.all_eq_true]
      intro e he
      rw [decide_eq_true_iff, List.map_map]
      exact em e he
    · rw [← h6]; exact B3
    · unfold tabOk
      simp only
      rw [hd, show choicesF (rows.map dueE) es = tu from ht]
      simp only [Bool.and_eq_true, decide_eq_true_iff, List.all_eq_true]
      refine ⟨⟨⟨by omega, fun row hr => ?_⟩, by omega⟩, by omega⟩
      obtain ⟨q1, q2, q3⟩ := qrow row hr
      unfold rowOk
      simp only [Bool.and_eq_true, decide_eq_true_iff, List.all_eq_true]
      exact ⟨⟨q1, q2⟩, q3⟩
  have pz := put_szs (rows := rows) (r := (names[k], vs, es, [])) new ln
  refine ⟨(rows ++ [(names[k], vs, es, tb)], szs (rows ++ [(names[k], vs, es, tb)]), tot * (vs.length : Int), spot + tu), ?_, ?_⟩
  · unfold T_law_rows_b2
    simp only [R.bind_ok, shl1_ok (show 0 ≤ count - (k : Int) - 1 by omega) (show count - (k : Int) - 1 ≤ 60 by omega), mulR_ok (show IntMulOk tot (2 ^ (count - (k : Int) - 1).toNat) from mulOk_left (by omega) (by omega)), divR_ok (show CDivP top (tot * 2 ^ (count - (k : Int) - 1).toNat) from divP_small dpos (by omega)), ey, atR_nat hnk]
    simp only at pz
    simp only [pz, R.bind_ok, mulR_ok (show IntMulOk tot (vs.length : Int) from mulOk_left (by omega) (by omega)), turns, rngR1_ok (show -1000000000 ≤ tu by omega) (show tu ≤ 1000000000 by omega), etb, fitN_ok (show tb.length ≤ sizeLine from rs.tb)]
    rw [appR_ok ln]
    simp only [R.bind_ok]
    have : szs (rows ++ [(names[k], vs, es, [])]) = szs (rows ++ [(names[k], vs, es, tb)]) := by unfold szs; simp
    rw [this]
  · have le : (rows ++ [((names[k], vs, es, tb) : NRow)]).length = k + 1 := by rw [List.length_append, hk]; rfl
    refine ⟨?_, ?_, h3.snoc gr rs, ?_, rfl, ?_, ?_, ?_, ?_, ?_⟩
    · simp only [le]; rfl
    · simp only [le]; omega
    · simp only [le]
      rw [List.map_append, h4, List.take_add_one, hnk]
      rfl
    · rw [waysF_snoc, ← h6]
    · have := Int.mul_le_mul h7 (show (1 : Int) ≤ (vs.length : Int) by omega) (by decide) (by omega)
      simp only
      omega
    · simp only [le]; exact B2
    · simp only; omega
    · simp only [le]; omega
theorem T_law_rows_ok (ns : List Int) (at_ most top : Int) (a0 : 0 ≤ at_) (a1 : at_ ≤ 1000000) (m0 : 1 ≤ most) (m1 : most ≤ 8) (t1 : top ≤ 4096) : ∃ rows, T_law_rows ns at_ most top = .ok rows ∧ 1 ≤ rows.length ∧ (rows.length : Int) ≤ most ∧ GoodL rows := by
  unfold T_law_rows
  rw [T_law_cell_eq ns (by omega) (by omega), T_law_cell_eq ns (show 0 ≤ at_ + 1 by omega) (by omega)]
  simp only [R.bind_ok, modR_ok (show 0 < most by omega)]
  have q0 := Int.emod_nonneg (cell ns at_.toNat) (show most ≠ 0 by omega)
  have q1 := Int.emod_lt_of_pos (cell ns at_.toNat) (show 0 < most by omega)
  generalize hc : 1 + cell ns at_.toNat % most = count at *
  obtain ⟨names, n1, n2, n3, n4⟩ := T_law_words_ok (cell ns (at_ + 1).toNat) count (by omega) (by omega)
  simp only [n1, R.bind_ok, rngR1_ok (show -1000000000 ≤ count by omega) (show count ≤ 1000000000 by omega)]
  have pw := two_pow_le (n := count.toNat) (m := 8) (by omega)
  obtain ⟨s, e, i⟩ := foldR_inv (f := T_law_rows_b2 ns at_ top count names) (RI names at_ count (max top (2 ^ count.toNat))) (rng 0 count) ([], [], 1, at_ + 2 + 2 * count) ⟨rfl, by show (0 : Int) ≤ count; omega, fun k r h => by simp at h, by simp, rfl, rfl, Int.le_refl _, by show 1 * 2 ^ (count - 0).toNat ≤ _; rw [Int.one_mul, Int.sub_zero]; omega, by show 0 ≤ at_ + 2 + 2 * count; omega, by show at_ + 2 + 2 * count ≤ at_ + 100 + 64 * 0; omega⟩ fun a l s h => rows_step a0 a1 (by omega) (by omega) n3 n4 (by omega) (by omega) h
  rw [e, R.bind_ok]
  have r := i.rem
  have le := i.le
  have : ¬ (s.1.length : Int) < count := fun z => by rw [rng_cons z] at r; cases r
  exact ⟨_, rfl, by omega, by omega, i.good⟩
/-! ### what good rows give -/
theorem GoodR.wrongTable {net : List NE} {w : Int} {r : NRow} {t : List (List Int)} (g : GoodR net w r) (h : tabOk t (choicesF net r.2.2.1) (r.2.1.length : Int) = false) : madeStep (net, w) (r.1, r.2.1, r.2.2.1, t) = .ex "WrongTable" := by
  unfold madeStep
  simp only
  rw [if_neg (by simpa using g.nm), if_neg g.new, g.v, R.bind_ok, g.e, R.bind_ok, if_neg (by have := g.ws; omega), if_pos (by rw [h]; decide)]
theorem GoodL.net {rows : List NRow} (h : GoodL rows) (hl : rows.length ≤ 10) (k : Nat) : NetSz ((rows.take k).map dueE) := by
  have := (fold_made (rows.take k) [] 1 [] (h.take k) netSz_nil (by rw [sizeLine_eq]; simp; omega) (by decide) (by decide)).2.1
  rwa [List.nil_append] at this
theorem GoodL.word {rows : List NRow} (h : GoodL rows) : ∀ x ∈ rows.map (·.1), isW x = true := fun x hx => by
  obtain ⟨r, hr, rfl⟩ := List.mem_map.mp hx
  obtain ⟨k, hk⟩ := List.getElem?_of_mem hr
  exact (h k r hk).1.nm
theorem GoodL.eld {rows : List NRow} (h : GoodL rows) {k : Nat} {r : NRow} (hk : rows[k]? = some r) : ∀ e ∈ r.2.2.1, e ∈ (rows.take k).map (·.1) := fun e he => by
  have := List.all_eq_true.mp (h k r hk).1.em e he
  rw [decide_eq_true_iff, List.map_map] at this
  exact this
theorem GoodL.pl {rows : List NRow} (h : GoodL rows) : ∀ r ∈ rows, RowPl r := fun r hr => by
  obtain ⟨k, hk⟩ := List.getElem?_of_mem hr
  have g := (h k r hk).1
  refine ⟨isW_ok g.nm _, fun v hv => isW_ok (List.all_eq_true.mp g.vw v hv) _, fun v hv => isW_ok (h.word v ?_) _⟩
  have := h.eld hk v hv
  obtain ⟨x, hx, e⟩ := List.mem_map.mp this
  exact List.mem_map.mpr ⟨x, List.mem_of_mem_take hx, e⟩
theorem GoodL.tl {rows : List NRow} (h : GoodL rows) (hl : rows.length ≤ 10) {k : Nat} {r : NRow} (hk : rows[k]? = some r) : 1 ≤ r.2.2.2.length ∧ r.2.2.2.length ≤ 64 := by
  have g := (h k r hk).1
  have em : ∀ e ∈ r.2.2.1, e ∈ ((rows.take k).map dueE).map (·.1) := fun e he => by simpa using List.all_eq_true.mp g.em e he
  have ns := h.net hl k
  have lo := (fold_choices (w := 1) ns r.2.2.1 1 em (by decide)).2
  have hi := choices_le (net := (rows.take k).map dueE) r.2.2.1 1 (fun e he => (valsOf_len ns (em e he)).2) (by decide)
  have tp : (4 : Int) ^ r.2.2.1.length ≤ 64 := by
    have := g.el
    have : r.2.2.1.length = 0 ∨ r.2.2.1.length = 1 ∨ r.2.2.1.length = 2 ∨ r.2.2.1.length = 3 := by omega
    rcases this with h | h | h | h <;> rw [h] <;> decide
  have tb := g.tb
  unfold tabOk at tb
  simp only [Bool.and_eq_true, decide_eq_true_iff] at tb
  have e := tb.1.1.1
  unfold choicesF at e
  omega
theorem GoodL.made {rows : List NRow} (h : GoodL rows) (h1 : 1 ≤ rows.length) (hl : rows.length ≤ 10) : T_made rows = .ok (rows.map dueE) := T_made_ok h1 hl h.good
theorem GoodL.copied {rows : List NRow} (h : GoodL rows) (hl : rows.length ≤ 10) : T_law_copied rows = .ok rows := T_law_copied_eq (by rw [sizeLine_eq]; omega) fun r hr => (good_tab _ _ _ h.good r hr).1
theorem GoodL.due {rows : List NRow} (h : GoodL rows) (hl : rows.length ≤ 10) : T_law_due rows = .ok (rows.map dueE) := T_law_due_eq (by rw [sizeLine_eq]; omega) (good_tab _ _ _ h.good)
def keyR (r : NRow) : Str × List Str := (r.1, r.2.1)
theorem vals_key (rows : List NRow) (e : Str) : valsOf (rows.map dueE) e = match (rows.map keyR).find? (fun p => decide (p.1 = e)) with | some p => p.2 | none => [] := by
  unfold valsOf
  rw [List.find?_map, List.find?_map]
  have hc : ((fun x : NE => decide (x.1 = e)) ∘ dueE) = ((fun p : Str × List Str => decide (p.1 = e)) ∘ keyR) := rfl
  rw [hc]
  cases rows.find? ((fun p : Str × List Str => decide (p.1 = e)) ∘ keyR) <;> rfl
theorem ways_key (rows : List NRow) (w : Int) : waysF w rows = (rows.map keyR).foldl (fun w p => w * (p.2.length : Int)) w := by
  unfold waysF
  rw [List.foldl_map]
  rfl
theorem names_key (rows : List NRow) : (rows.map dueE).map (·.1) = (rows.map keyR).map (·.1) := by rw [List.map_map, List.map_map]; rfl
theorem choices_key {rows rows' : List NRow} (h : rows.map keyR = rows'.map keyR) (es : List Str) : choicesF (rows.map dueE) es = choicesF (rows'.map dueE) es := by
  unfold choicesF
  have : (fun (c : Int) (e : Str) => c * ((valsOf (rows.map dueE) e).length : Int)) = fun c e => c * ((valsOf (rows'.map dueE) e).length : Int) := by
    funext c e
    rw [vals_key, vals_key, h]
  rw [this]
theorem GoodR.key {rows rows' : List NRow} {r : NRow} (h : rows.map keyR = rows'.map keyR) (g : GoodR (rows.map dueE) (waysF 1 rows) r) : GoodR (rows'.map dueE) (waysF 1 rows') r := by
  obtain ⟨a, b, c, d, e, f, k, l, m, n⟩ := g
  rw [names_key, h, ← names_key] at b k
  rw [ways_key, h, ← ways_key] at m
  rw [choices_key h] at n
  exact ⟨a, b, c, d, e, f, k, l, m, n⟩
theorem GoodL.setTab {rows : List NRow} (h : GoodL rows) {k : Nat} {r : NRow} (hk : rows[k]? = some r) {t : List (List Int)} (ht : tabOk t (choicesF ((rows.take k).map dueE) r.2.2.1) (r.2.1.length : Int) = true) (hl : t.length ≤ sizeLine) : GoodL (rows.set k (r.1, r.2.1, r.2.2.1, t)) := by
  intro j x hx
  have kk : ∀ j, ((rows.set k (r.1, r.2.1, r.2.2.1, t)).take j).map keyR = (rows.take j).map keyR := fun j => by
    rw [List.map_take, List.map_take, List.map_set]
    have : (rows.map keyR).set k (keyR (r.1, r.2.1, r.2.2.1, t)) = rows.map keyR := by
      refine List.ext_getElem? fun i => ?_
      rw [List.getElem?_set]
      split
      · rename_i hi
        subst hi
        rw [if_pos (by rw [List.length_map]; exact (List.getElem?_eq_some_iff.mp hk).1), List.getElem?_map, hk]
        rfl
      · rfl
    rw [this]
  by_cases e : j = k
  · subst e
    rw [List.getElem?_set_self (List.getElem?_eq_some_iff.mp hk).1] at hx
    have hx : (r.1, r.2.1, r.2.2.1, t) = x := by simpa using hx
    subst hx
    obtain ⟨⟨a, b, c, d, e, f, g, l, m, n⟩, sz⟩ := h j r hk
    exact ⟨GoodR.key (kk j).symm ⟨a, b, c, d, e, f, g, l, m, ht⟩, ⟨sz.nm, sz.vs, hl⟩⟩
  · rw [List.getElem?_set_ne (fun z => e z.symm)] at hx
    obtain ⟨g, sz⟩ := h j x hx
    exact ⟨GoodR.key (kk j).symm g, sz⟩
theorem set_split {α : Type} {l : List α} {k : Nat} (h : k < l.length) (x : α) : l.set k x = l.take k ++ x :: l.drop (k + 1) := by
  rw [List.set_eq_take_append_cons_drop, if_pos h]
end OD
set_option Elab.async false
set_option linter.all false
set_option maxRecDepth 100000
set_option maxHeartbeats 4000000
namespace L2.VL
open PySem PySem.Spec PyProof.Rows
/-! ## dicts walked, copied, asked with a second word -/
def keysOf : D → R (List D)
  | .dic kds => .ok (kds.map fun kv => kD kv.1)
  | _ => .bad
def itemsOf : D → R (List (D × D))
  | .dic kds => .ok (kds.map fun kv => (kD kv.1, kv.2))
  | _ => .bad
@[simp] def iKeysD (f : List D → R D) (e : List D) : R (List D) := (f e).bind keysOf
@[simp] def iItemsD' (f : List D → R D) (e : List D) : R (List (D × D)) := (f e).bind itemsOf
section
variable {K : PySem.W.Frag} {H0 B H H' : Hp} {v : V} {kds : List (Key × D)}
theorem RepT.stayD (r : RepT K H0 H B H' .im v (.dic kds)) : ∃ p o kvs, v = .ref p ∧ kvs.length = kds.length ∧ (∀ B1 H1, Same B B1 → Same H0 H1 → Same B1 H1 → H1 p = some (.frz o (.dK kvs))) ∧ ∀ (i : Nat) k d B1, kds[i]? = some (k, d) → Same B B1 → ∃ x, kvs[i]? = some (k, x) ∧ Rep false K B1 x d := by
  cases (show Rep false K B v (.dic kds) from r) with
  | dic h q =>
    obtain ⟨o, h⟩ := h
    refine ⟨_, o, _, rfl, q.length, fun B1 H1 sb s0 sh => (sb.trans sh) _ _ h, fun i k d B1 hd sb => ?_⟩
    obtain ⟨x, hx, qx⟩ := q.get hd
    exact ⟨x, hx, Rep.mono sb qx⟩
  | dko z _ _ => cases z
end
section
variable {X : Cx} {G : List Md} {W : WX} {tg a : Expr} {f : List D → R D}
theorem vi_keysD (h : PE X a (vE X.K X.mg G W .im f)) : PI X tg a (vI X.K X.mg G W .im (iKeysD f)) := by
  refine pi_weak (pi_keys h) fun sg H Rr ⟨B0, H0, B, e, S, k⟩ => ?_
  refine seqI S k fun B1 H1 x d x1 S1 r1 k1 => ?_
  cases d with
  | dic kds =>
    obtain ⟨p, o, kvs, rfl, hl, hst, hit⟩ := r1.stayD
    refine ⟨p, o, rfl, .inl ⟨kvs, hst B1 H1 (Same.refl _) S1.ext.h x1.s, k1 B1 H1 _ x1 ⟨fun H => H p = some (.frz o (.dK kvs)), fun i H x H' => H' = H ∧ ∃ k v, kvs[i]? = some (k, v) ∧ x = kV k, ?_, fun B2 H2 sb s0 sh => hst B2 H2 sb s0 sh, fun i H2 y H3 d B2 hy hd sb s0 sh => ?_⟩⟩⟩
    · rw [List.length_map, ← hl]
      exact walk_keys
    · obtain ⟨e1, k, z, hz, rfl⟩ := hy
      refine ⟨e1, ?_⟩
      rw [List.getElem?_map] at hd
      cases hk : kds[i]? with
      | none => rw [hk] at hd; cases hd
      | some kv =>
        rw [hk] at hd
        obtain ⟨x, hx, q⟩ := hit i kv.1 kv.2 B2 hk sb
        rw [hz] at hx
        cases hx
        cases hd
        exact kD_rep _
  | _ => exact k1.elim
theorem vi_itemsD {elts : List Expr} {kk : Nat} {tpos apos cpos : Pos} (h : PE X a (vE X.K X.mg G W .im f)) (hbase : attributeBase a "items" X.env (eval a X.env) = eval a X.env := by rfl) (hline : (apos.endLine == cpos.line) = true := by rfl) :
    PI X (.Tuple elts kk tpos) (.Call (.Attribute a "items" apos) [] [] cpos) (vI2 X.K X.mg G W .im .im (iItemsD' f)) := by
  refine pi_weak (pi_items h hbase hline) fun sg H Rr ⟨B0, H0, B, e, S, k⟩ => ?_
  refine seqI S k fun B1 H1 x d x1 S1 r1 k1 => ?_
  cases d with
  | dic kds =>
    obtain ⟨p, o, kvs, rfl, hl, hst, hit⟩ := r1.stayD
    refine ⟨p, o, kvs, rfl, hst B1 H1 (Same.refl _) S1.ext.h x1.s, k1 B1 H1 _ x1 ⟨fun H => H p = some (.frz o (.dK kvs)), YPair (fun i => kvs[i]?.map fun kv => kV kv.1) (fun i => kvs[i]?.map Prod.snd), ?_, fun B2 H2 sb s0 sh => hst B2 H2 sb s0 sh, fun i H2 y H3 d1 d2 B2 hy hd sb s0 sh => ?_⟩⟩
    · rw [List.length_map, ← hl]
      exact walk_items
    · obtain ⟨T, x1, x2, e1, e2, e3, e4, e5⟩ := hy
      rw [List.getElem?_map] at hd
      cases hk : kds[i]? with
      | none => rw [hk] at hd; cases hd
      | some kv =>
        rw [hk] at hd
        obtain ⟨x, hx, q⟩ := hit i kv.1 kv.2 B2 hk sb
        simp only [hx, Option.map_some] at e4 e5
        cases e4
        cases e5
        cases hd
        exact ⟨T, _, _, e1, e2, e3, kD_rep _, q⟩
  | _ => exact k1.elim
end
/-! ### d.get(k, z), for flat things -/
def isDic : D → R Unit
  | .dic _ => .ok ()
  | _ => .bad
def flatR (d : D) : R D := if flatD d then .ok d else .bad
def dget2D : D → D → D → R D
  | .dic kds, k, z => (ofO (keyD k)).bind fun k => flatR ((valD kds k).getD z)
  | _, _, _ => .bad
@[simp] theorem dget2D_dic (kds : List (Key × D)) (k z : D) : dget2D (.dic kds) k z = (ofO (keyD k)).bind fun k => flatR ((valD kds k).getD z) := rfl
@[simp] def eDGet2 (fo fk fz : List D → R D) (e : List D) : R D := (fo e).bind fun d => (isDic d).bind fun _ => (fk e).bind fun k => (fz e).bind fun z => dget2D d k z
section
variable {X : Cx} {G : List Md} {W : WX} {o a b : Expr} {fo fa fb : List D → R D} {mo ma mb : Tg} {apos cpos : Pos}
theorem ve_dget2 (hu : X.A.units + 1 < cLine) (ho : PE X o (vE X.K X.mg G W mo fo)) (ha : PE X a (vE X.K X.mg G W ma fa)) (hb : PE X b (vE X.K X.mg G W mb fb)) (m : M2 X o "get" apos a b cpos) : PE X (.Call (.Attribute o "get" apos) [a, b] [] cpos) (vE X.K X.mg G W .im (eDGet2 fo fa fb)) := by
  refine pe_weak (pe_dget2 hu ho ha hb m) fun sg H Q ⟨B0, H0, B, e, S, k⟩ => ?_
  refine seq1 (P := KE X.K X.mg W sg H0 B H Q .im) S k (fun c k => k.ex_of) (fun k => k) fun B1 H1 x d1 x1 S1 r1 k1 => ?_
  cases d1 with
  | dic kds =>
    have k1 : KE X.K X.mg W sg H0 B H Q .im ((fa e).bind fun k => (fb e).bind fun z => dget2D (.dic kds) k z) := k1
    obtain ⟨p, kvs, rfl, hp, _⟩ := r1.dic_at x1.s S1.ext.h
    refine ⟨p, rfl, .inl ⟨kvs, hp⟩, ?_⟩
    refine seq1 (P := KE X.K X.mg W sg H0 B H Q .im) S1 k1 (fun c k B' H' a y hm => k B' H' a (x1.trans y) hm) (fun k => k) fun B2 H2 y d2 x2 S2 r2 k2 => ?_
    refine seq1 (P := KE X.K X.mg W sg H0 B H Q .im) S2 k2 (fun c k B' H' a y hm => k B' H' a ((x1.trans x2).trans y) hm) (fun k => k) fun B3 H3 z d3 x3 S3 r3 k3 => ?_
    have s0 : Same H0 H3 := S3.ext.h
    have q2 := (r2.later x3).all x3.s s0
    have q3 := r3.all x3.s s0
    have X3 := (x1.trans x2).trans x3
    obtain ⟨p', kvs', e', hp', hv⟩ := ((r1.later x2).later x3).dic_at x3.s s0
    injection e' with e'
    subst e'
    rw [dget2D_dic] at k3
    cases ek : keyD d2 with
    | none => rw [ek] at k3; exact k3.elim
    | some kk =>
      rw [ek] at k3
      have k3 : KE X.K X.mg W sg H0 B H Q .im (flatR ((valD kds kk).getD d3)) := k3
      unfold flatR at k3
      rcases hv kk with ⟨h1, h2⟩ | ⟨w, d, h1, h2, h3⟩
      · rw [h2, Option.getD_none] at k3
        by_cases hf : flatD d3 = true
        · rw [if_pos hf] at k3
          refine ⟨none, .inl ⟨kvs', kk, hp', key_rep q2 ek, h1.symm⟩, ?_⟩
          exact k3 B3 H3 z X3 (flat_rep q3 hf)
        · rw [if_neg hf] at k3; exact k3.elim
      · rw [h2, Option.getD_some] at k3
        by_cases hf : flatD d = true
        · rw [if_pos hf] at k3
          refine ⟨some w, .inl ⟨kvs', kk, hp', key_rep q2 ek, h1.symm⟩, ?_⟩
          exact k3 B3 H3 w X3 (flat_rep (h3.all x3.s s0) hf)
        · rw [if_neg hf] at k3; exact k3.elim
  | _ => exact k1.elim
end
end L2.VL
set_option Elab.async false
set_option linter.all false
set_option maxRecDepth 100000
set_option maxHeartbeats 4000000
namespace L2.VL
open PySem PySem.Spec PyProof.Rows
/-! ## dicts walked, copied, asked with a second word: natives -/
theorem kD_of {d : D} {k : Key} (h : keyD d = some k) : kD k = d := by cases d <;> first | (cases h; rfl) | cases h
section
variable {κ α β : Type} [DecidableEq κ] {ek : κ → D} {g : κ → Key} {f : α → D} {p : Pat} {fo fk fz : List D → R D}
theorem k_dget2 (Ko : KeyOk ek g) (F : Flt f) (l : List (κ × α)) (k : κ) (z : α) : dget2D (.dic (l.map fun p => (g p.1, f p.2))) (ek k) (f z) = .ok (f ((valD l k).getD z)) := by
  rw [dget2D_dic, Ko.key]
  show flatR ((valD _ (g k)).getD (f z)) = _
  rw [valD_map Ko]
  have e : ((valD l k).map f).getD (f z) = f ((valD l k).getD z) := by cases valD l k <;> rfl
  rw [e]
  exact if_pos (F.1 _)
theorem sp_dget2 (Ko : KeyOk ek g) (F : Flt f) {l : List (κ × α)} {k : κ} {z : α} (ho : SP p fo (.dic (l.map fun p => (g p.1, f p.2)))) (hk : SP p fk (ek k)) (hz : SP p fz (f z)) : SP p (eDGet2 fo fk fz) (f ((valD l k).getD z)) := fun e he => by
  show (fo e).bind _ = _
  rw [ho e he]
  show (fk e).bind _ = _
  rw [hk e he]
  show (fz e).bind _ = _
  rw [hz e he]
  exact k_dget2 Ko F l k z
theorem se_dget2 (Ko : KeyOk ek g) (F : Flt f) {ro : R (List (κ × α))} {rk : R κ} {rz : R α} (ho : SE p fo ro (fun l => .dic (l.map fun p => (g p.1, f p.2)))) (hk : SE p fk rk ek) (hz : SE p fz rz f) :
    SE p (eDGet2 fo fk fz) (ro.bind fun l => rk.bind fun k => rz.bind fun z => R.ok ((valD l k).getD z)) f :=
  fun e he => (ho e he).bind fun l => (hk e he).bind fun k => (hz e he).bind fun z => Ref.of (k_dget2 Ko F l k z)
theorem si_keysD (Ko : KeyOk ek g) {r : R (List (κ × α))} (h : SE p fo r (fun l => .dic (l.map fun p => (g p.1, f p.2)))) : SI p (iKeysD fo) (r.bind fun l => R.ok (l.map (·.1))) ek := fun e he =>
  (h e he).bind fun l => Ref.of (by
    show R.ok (List.map _ (List.map _ l)) = R.ok (List.map ek (List.map (fun x => x.1) l))
    rw [List.map_map, List.map_map]
    exact congrArg R.ok (List.map_congr_left fun q _ => kD_of (Ko.key _)))
theorem si_itemsD (Ko : KeyOk ek g) {r : R (List (κ × α))} (h : SE p fo r (fun l => .dic (l.map fun p => (g p.1, f p.2)))) : SI2 p (iItemsD' fo) r ek f := fun e he => by
  have z := (h e he).bind (k := itemsOf) (k' := fun l => R.ok l) (g := fun l => l.map fun x => (ek x.1, f x.2)) fun l => Ref.of (by
    show R.ok (List.map _ (List.map _ l)) = R.ok (List.map _ l)
    rw [List.map_map]
    exact congrArg R.ok (List.map_congr_left fun q _ => by
      show (kD (g q.1), f q.2) = _
      rw [kD_of (Ko.key _)]))
  cases r <;> exact z
end
/-! ### dict(d) -/
def asDc (m : Tg) : D → R D
  | .dic kds => if cnOk m (kds.map (·.2)) then .ok (.dic kds) else .bad
  | _ => .bad
@[simp] theorem asDc_dic (m : Tg) (kds : List (Key × D)) : asDc m (.dic kds) = if cnOk m (kds.map (·.2)) then .ok (.dic kds) else .bad := rfl
@[simp] def eAsD (m : Tg) (f : List D → R D) (e : List D) : R D := (f e).bind (asDc m)
theorem flat_repKs {c c' : Bool} {K : PySem.W.Frag} {B B' : Hp} : ∀ {kvs : List (Key × V)} {kds : List (Key × D)}, RepKs c K B kvs kds → (kds.map (·.2)).all flatD = true → RepKs c' K B' kvs kds
  | _, _, .nil, _ => .nil
  | _, _, .cons h r, f => by
    rw [List.map_cons, List.all_cons, Bool.and_eq_true] at f
    exact .cons (flat_rep h f.1) (flat_repKs r f.2)
theorem Rep.sqD {c : Bool} {K : PySem.W.Frag} {B : Hp} {v : V} {kds : List (Key × D)} (r : Rep c K B v (.dic kds)) : ∃ a kvs, v = .ref a ∧ Rd B a (.dK kvs) ∧ RepKs c K B kvs kds := by
  cases r with
  | dic h q =>
    obtain ⟨o, h⟩ := h
    exact ⟨_, _, rfl, .inr ⟨o, h⟩, q⟩
  | dko _ h q => exact ⟨_, _, rfl, h, q⟩
theorem RepT.cnD {K : PySem.W.Frag} {H0 H B H' : Hp} {m : Tg} {v : V} {kds : List (Key × D)} (r : RepT K H0 H B H' m v (.dic kds)) (s : Same B H') (s0 : Same H0 H') (hc : cnOk m (kds.map (·.2)) = true) : ∃ p kvs, v = .ref p ∧ Rd H' p (.dK kvs) ∧ RepKs false K B kvs kds := by
  cases m with
  | im =>
    obtain ⟨a, vs, rfl, h, q⟩ := Rep.sqD r
    exact ⟨_, _, rfl, same_rd s h, q⟩
  | ar =>
    obtain ⟨a, vs, rfl, h, q⟩ := Rep.sqD r
    exact ⟨_, _, rfl, same_rd s0 h, flat_repKs q hc⟩
  | lo =>
    obtain ⟨a, vs, rfl, h, q⟩ := Rep.sqD r
    exact ⟨_, _, rfl, h, flat_repKs q hc⟩
  | fr =>
    obtain ⟨p, rfl, _, _, vs, h, q⟩ := r
    exact ⟨p, vs, rfl, .inl h, q⟩
  | oc =>
    obtain ⟨p, rfl, vs, h, q⟩ := r
    exact ⟨p, vs, rfl, .inl h, q⟩
section
variable {X : Cx} {G : List Md} {W : WX} {a : Expr} {f : List D → R D} {m : Tg} {p pos : Pos}
theorem ve_dictD (hm : X.mg "dict" = none) (ha : PE X a (vE X.K X.mg G W m f)) (hg : Gl X "dict" := by rfl) (he : starEach [a] X.env = (false, eval a X.env) :: starEach [] X.env := by rfl) (hpl : (backTo pos (starEach [] X.env)).any (·.1) = false := by rfl) :
    PE X (.Call (.Name "dict" p) [a] [] pos) (vE X.K X.mg G W .fr (eAsD m f)) := by
  refine pe_weak (pe_callTy call_dictD hg hm (by decide +kernel) (pa_cons ha pa_nil he) (by decide) (by decide) he hpl) fun sg H Q ⟨B0, H0, B, e, S, k⟩ => ?_
  refine seq1 (P := KE X.K X.mg W sg H0 B H Q .fr) S k (fun c k => k) (fun k => k) fun B1 H1 x d x1 S1 r1 k1 => ?_
  cases d with
  | dic kds =>
    rw [asDc_dic] at k1
    by_cases hc : cnOk m (kds.map (·.2)) = true
    · rw [if_pos hc] at k1
      obtain ⟨q, kvs, ex, hp, hr⟩ := r1.cnD x1.s S1.ext.h hc
      exact ⟨q, kvs, by rw [ex], hp, fun l hl => k1 B1 _ _ (x1.trans (.newH x1.s hl)) ⟨l, rfl, x1.h.free hl, x1.s.free hl, _, upd_same, hr⟩⟩
    · rw [if_neg hc] at k1; exact k1.elim
  | _ => exact k1.elim
end
section
variable {κ α : Type} {g : κ → Key} {f : α → D} {p : Pat} {fo : List D → R D} {m : Tg}
theorem cnD_im (l : List (κ × α)) (h : isC m = true) : cnOk m ((l.map fun p => (g p.1, f p.2)).map (·.2)) = true := by
  unfold cnOk
  rw [h]
  rfl
theorem cnD_flt (F : Flt f) (l : List (κ × α)) : cnOk m ((l.map fun p => (g p.1, f p.2)).map (·.2)) = true := by
  have e : ((l.map fun p => (g p.1, f p.2)).map (·.2)) = (l.map (·.2)).map f := by rw [List.map_map, List.map_map]; rfl
  rw [e]
  exact cn_flt F m _
theorem sp_asD {l : List (κ × α)} (h : SP p fo (.dic (l.map fun p => (g p.1, f p.2)))) (hc : cnOk m ((l.map fun p => (g p.1, f p.2)).map (·.2)) = true) : SP p (eAsD m fo) (.dic (l.map fun p => (g p.1, f p.2))) :=
  sp_1 (k := asDc m) (show asDc m (.dic (l.map fun p => (g p.1, f p.2))) = _ from if_pos hc) h
theorem se_asD {r : R (List (κ × α))} (h : SE p fo r (fun l => .dic (l.map fun p => (g p.1, f p.2)))) (hc : ∀ l : List (κ × α), cnOk m ((l.map fun p => (g p.1, f p.2)).map (·.2)) = true) : SE p (eAsD m fo) r (fun l => .dic (l.map fun p => (g p.1, f p.2))) := fun e he => by
  have z := h e he
  show Ref ((fo e).bind (asDc m)) _
  cases r with
  | bad => exact .inl rfl
  | ex c =>
    rw [z.ex]
    exact .inr rfl
  | ok l =>
    rw [z.ok]
    exact .inr (if_pos (hc l))
end
end L2.VL
set_option Elab.async false
set_option linter.all false
set_option maxRecDepth 100000
set_option maxHeartbeats 4000000
namespace L2.VL
open PySem PySem.Spec PyProof.Rows
/-! ## one's own list or dict goes to another name -/
section
variable {X : Cx} {G : List Md} {W : WX} {rm : Rm} {pos pos' pn : Pos} {i j : Nat} {x y : Str}
theorem vs_move (hN : X.N.Nodup) (hG : G[j]? = some .ow := by rfl) (hl : leG G (G.set j .un) = true := by rfl) (hNj : X.N[j]? = some y := by rfl)
    (hv : Vis X.env.scope y := by first | exact Or.inl rfl | exact Or.inr (Or.inl rfl) | exact Or.inr (Or.inr rfl)) (hd : (y == ("__debug__" : Str)) = false := by decide)
    (hcd : (y == ("__classdict__" : Str)) = false := by decide) (hi : X.N[i]? = some x := by rfl) (hx : Loc X.env.scope x := by first | exact Or.inl rfl | exact Or.inr rfl)
    (hs : swapsWith (.Name y pn) (some (.Name x pos')) pos.line X.env = pure false := by rfl)
    (hf : X.fn x = true ∨ X.env.scope.names.lookup x = some .local := by first | exact .inl rfl | exact .inr rfl) :
    PS X (.Assign [.Name x pos'] (.Name y pn) pos) (vS X.K X.mg G ((G.set j .un).set i .ow) W rm (sAsg i (eVar j))) := by
  refine ps_weak (ps_set hN hi hx (pe_var hNj hv hd hcd) hs hf) fun Dn sg H ⟨B0, H0, B, e, S, k⟩ => ?_
  obtain ⟨v, d, h1, h2, h3⟩ := S.sl.get hG
  unfold sAsg eVar at k
  rw [h2] at k
  obtain ⟨p, rfl, hp, hb, ho⟩ := h3.own
  refine ⟨.ref p, h1, k _ B H ((S.le hl).set i (m := .ow) ⟨hp, hb, ho⟩ fun _ j' q eq hj hs' => ?_) (Same.refl _)⟩
  cases eq
  have ej := S.dis j' j p (leG_ow hl hj) hG hs' h1
  subst ej
  rw [List.getElem?_set_self (List.getElem?_eq_some_iff.mp hG).1] at hj
  cases hj
end
end L2.VL
set_option Elab.async false
set_option linter.all false
set_option maxRecDepth 100000
set_option maxHeartbeats 4000000
set_option synthInstance.maxSize 1000
set_option synthInstance.maxHeartbeats 400000
namespace OD
open PySem PySem.Spec PyProof.Rows L2 L2.VL
def G_row_by : List D → R Fl := (sSeq (sAsg 3 (eCall M_names_of (aCons (eVar 0) aNil))) (sSeq (sAsg 4 (eC (.int 0))) (sSeq (sFor (iTupl (eIx (eVar 1) (eC (.int 2)))) (tgName 5) (sSeq (sAsg 6 (eIdxT (eVar 3) (eVar 5))) (sSeq (sAsg 7 (eIx (eIx (eVar 0) (eVar 6)) (eC (.int 1)))) (sAsg 4 (eOp gAdd (eOp gMul (eVar 4) (eB gLen (aCons (eVar 7) aNil))) (eIdxT (eVar 7) (eIx (eVar 2) (eVar 6)))))))) (sRet (eIx (eIx (eVar 1) (eC (.int 4))) (eVar 4))))))
def M_row_by : List D → R D := runF 8 (G_row_by)
def T_row_by_b1 (v_net : (List (Str × (List Str) × (List Str) × Int × (List (List Int))))) (v_way : (List Str)) (v_names : (List Str)) (s1 : Int) (a2 : Str) : R Int := (((R.ok v_names).bind fun l => (R.ok a2).bind fun x => idxR l x).bind fun (v_at : Int) => (((atR v_net v_at).bind fun x => R.ok x.2.1).bind fun (v_values : (List Str)) => (((mulR s1 (v_values.length : Int)).bind fun x => ((R.ok v_values).bind fun l => (atR v_way v_at).bind fun x => idxR l x).bind fun y => R.ok (x + y)).bind fun (v_row : Int) => R.ok v_row)))
def T_row_by (v_net : (List (Str × (List Str) × (List Str) × Int × (List (List Int))))) (v_entry : (Str × (List Str) × (List Str) × Int × (List (List Int)))) (v_way : (List Str)) : R (List Int) := ((T_names_of v_net).bind fun (v_names : (List Str)) => ((R.ok (0 : Int)).bind fun (v_row : Int) => (((R.ok v_entry.2.2.1).bind fun l => foldR (T_row_by_b1 v_net v_way v_names) l v_row).bind fun (v_row : Int) => (atR v_entry.2.2.2.2 v_row))))
theorem sim_row_by (v_net : (List (Str × (List Str) × (List Str) × Int × (List (List Int))))) (v_entry : (Str × (List Str) × (List Str) × Int × (List (List Int)))) (v_way : (List Str)) : Ref (M_row_by [(eT (e5 D.str (eT D.str) (eT D.str) D.int (eT (eT D.int)))) v_net, (e5 D.str (eT D.str) (eT D.str) D.int (eT (eT D.int))) v_entry, (eT D.str) v_way]) ((T_row_by v_net v_entry v_way).map (eT D.int)) := by
  unfold M_row_by
  exact run_x (n := 8) (p := [some ((eT (e5 D.str (eT D.str) (eT D.str) D.int (eT (eT D.int)))) v_net), some ((e5 D.str (eT D.str) (eT D.str) D.int (eT (eT D.int))) v_entry), some ((eT D.str) v_way), none, none, none, none, none]) (by unfold G_row_by T_row_by; exact (sx_seq (sn_asg (i := 3) (ea := (eT D.str)) (P := fun (v_names : (List Str)) => [some ((eT (e5 D.str (eT D.str) (eT D.str) D.int (eT (eT D.int)))) v_net), some ((e5 D.str (eT D.str) (eT D.str) D.int (eT (eT D.int))) v_entry), some ((eT D.str) v_way), some ((eT D.str) v_names), none, none, none, none]) (by exact (se_call (sa_cons (d := ((eT (e5 D.str (eT D.str) (eT D.str) D.int (eT (eT D.int)))) v_net)) (sp_var (i := 0)) sa_nil) (sim_names_of v_net)))) (fun (v_names : (List Str)) => (sx_seq (sn_asg (i := 4) (ea := D.int) (P := fun (v_row : Int) => [some ((eT (e5 D.str (eT D.str) (eT D.str) D.int (eT (eT D.int)))) v_net), some ((e5 D.str (eT D.str) (eT D.str) D.int (eT (eT D.int))) v_entry), some ((eT D.str) v_way), some ((eT D.str) v_names), some (D.int v_row), none, none, none]) (by exact (SP.se (ea := D.int) (x := (0 : Int)) sp_c))) (fun (v_row : Int) => (sx_seq (sn_for (P := fun (s1 : Int) => [some ((eT (e5 D.str (eT D.str) (eT D.str) D.int (eT (eT D.int)))) v_net), some ((e5 D.str (eT D.str) (eT D.str) D.int (eT (eT D.int))) v_entry), some ((eT D.str) v_way), some ((eT D.str) v_names), some (D.int s1), none, none, none]) (Pt := fun (s1 : Int) (a2 : Str) => [some ((eT (e5 D.str (eT D.str) (eT D.str) D.int (eT (eT D.int)))) v_net), some ((e5 D.str (eT D.str) (eT D.str) D.int (eT (eT D.int))) v_entry), some ((eT D.str) v_way), some ((eT D.str) v_names), some (D.int s1), some (D.str a2), none, none]) (st := (T_row_by_b1 v_net v_way v_names)) v_row (si_tup (ea := D.str) (SP.se (ea := (eT D.str)) (x := v_entry.2.2.1) (sp_ix (d := (eT D.str) v_entry.2.2.1) rfl (sp_var (i := 1)) sp_c))) (by exact And.intro rfl (And.intro rfl (And.intro rfl (And.intro rfl (And.intro rfl (trivial)))))) (fun _ => tg_name) (fun s1 a2 => by unfold T_row_by_b1; exact (sn_seq (sn_asg (i := 6) (ea := D.int) (P := fun (v_at : Int) => [some ((eT (e5 D.str (eT D.str) (eT D.str) D.int (eT (eT D.int)))) v_net), some ((e5 D.str (eT D.str) (eT D.str) D.int (eT (eT D.int))) v_entry), some ((eT D.str) v_way), some ((eT D.str) v_names), some (D.int s1), some (D.str a2), some (D.int v_at), none]) (by exact (se_idxT (SP.se (ea := (eT D.str)) (x := v_names) (sp_var (i := 3))) (SP.se (ea := D.str) (x := a2) (sp_var (i := 5)))))) (fun (v_at : Int) => (sn_seq (sn_asg (i := 7) (ea := (eT D.str)) (P := fun (v_values : (List Str)) => [some ((eT (e5 D.str (eT D.str) (eT D.str) D.int (eT (eT D.int)))) v_net), some ((e5 D.str (eT D.str) (eT D.str) D.int (eT (eT D.int))) v_entry), some ((eT D.str) v_way), some ((eT D.str) v_names), some (D.int s1), some (D.str a2), some (D.int v_at), some ((eT D.str) v_values)]) (by exact (se_ixC (ea := (e5 D.str (eT D.str) (eT D.str) D.int (eT (eT D.int)))) (ec := (eT D.str)) (k := 1) (h := fun x => R.ok x.2.1) (se_ixP (ec := (e5 D.str (eT D.str) (eT D.str) D.int (eT (eT D.int)))) (k_atT v_net v_at) (sp_var (i := 0)) (sp_var (i := 6))) sp_c (fun _ => .inr rfl)))) (fun (v_values : (List Str)) => (sn_yield (P := fun (s1 : Int) => [some ((eT (e5 D.str (eT D.str) (eT D.str) D.int (eT (eT D.int)))) v_net), some ((e5 D.str (eT D.str) (eT D.str) D.int (eT (eT D.int))) v_entry), some ((eT D.str) v_way), some ((eT D.str) v_names), some (D.int s1), none, none, none]) (sn_asg (i := 4) (ea := D.int) (P := fun (v_row : Int) => [some ((eT (e5 D.str (eT D.str) (eT D.str) D.int (eT (eT D.int)))) v_net), some ((e5 D.str (eT D.str) (eT D.str) D.int (eT (eT D.int))) v_entry), some ((eT D.str) v_way), some ((eT D.str) v_names), some (D.int v_row), some (D.str a2), some (D.int v_at), some ((eT D.str) v_values)]) (by exact (se_op (k := gAdd) (ea := D.int) (eb := D.int) (ec := D.int) (h := fun (x : Int) (y : Int) => R.ok (x + y)) (fun x y => Ref.of rfl) (se_opP (k := gMul) (ec := D.int) (k_mul s1 (v_values.length : Int)) (sp_var (i := 4)) (sp_b (k := gLen) (d := D.int (v_values.length : Int)) (sa_cons (d := ((eT D.str) v_values)) (sp_var (i := 7)) sa_nil) (g_lenT _))) (se_idxT (SP.se (ea := (eT D.str)) (x := v_values) (sp_var (i := 7))) (se_ixP (ec := D.str) (k_atT v_way v_at) (sp_var (i := 2)) (sp_var (i := 6))))))) (fun (v_row : Int) => v_row) (fun (v_row : Int) => by exact And.intro rfl (And.intro rfl (And.intro rfl (And.intro rfl (And.intro rfl (trivial))))))))))))) (fun (v_row : Int) => (sx_ret (by exact (se_ixP (ec := (eT D.int)) (k_atT v_entry.2.2.2.2 v_row) (sp_ix (d := (eT (eT D.int)) v_entry.2.2.2.2) rfl (sp_var (i := 1)) sp_c) (sp_var (i := 4)))))))))))) (And.intro rfl (And.intro rfl (And.intro rfl (trivial))))
def G_walked_by : List D → R Fl := (sSeq (sAsg 3 (eLst (aCons (eTup (aCons (eTup aNil) (aCons (eC (.int 1)) aNil))) aNil))) (sSeq (sFor (iTupl (eVar 0)) (tgName 4) (sSeq (sAsg 5 (eIx (eVar 4) (eC (.int 0)))) (sSeq (sAsg 6 (eLst aNil)) (sSeq (sFor (iLst (eVar 3)) (tgTup [7, 8]) (sForP (iZipT (eIx (eVar 4) (eC (.int 1))) (eCall M_row_by (aCons (eVar 0) (aCons (eVar 4) (aCons (eVar 7) aNil))))) 9 10 (sIf (tAndB (tVal (eOp gEq (eDGet2 (eVar 1) (eVar 5) (eVar 9)) (eVar 9))) (tVal (eOp gEq (eDGet2 (eVar 2) (eVar 5) (eVar 9)) (eVar 9)))) (sOwn 6 gApp (aCons (eTup (aCons (eCatT (eVar 7) (eTup (aCons (eVar 9) aNil))) (aCons (eOp gMul (eVar 8) (eVar 10)) aNil))) aNil)) sNil))) (sAsg 3 (eVar 6)))))) (sRet (eVar 3))))
def M_walked_by : List D → R D := runFr 11 (G_walked_by)
def T_walked_by_b1 (v_setting : (List (Str × Str))) (v_more : (List (Str × Str))) (v_name : Str) (a4 : ((List Str) × Int)) (s5 : (List ((List Str) × Int))) (a6 : (Str × Int)) : R (List ((List Str) × Int)) := (((R.ok ((decide (((valD v_setting v_name).getD a6.1) = a6.1)) && (decide (((valD v_more v_name).getD a6.1) = a6.1)))).bind fun b => if b then ((((((R.ok a4.1).bind fun x => (R.ok [a6.1]).bind fun y => catR x y).bind fun x => ((mulR a4.2 a6.2).bind fun x => (R.ok ()).bind fun xs => R.ok (x, xs)).bind fun xs => R.ok (x, xs)).bind fun t => R.ok (t.1, t.2.1)).bind fun x => appR s5 x).bind fun (v_longer : (List ((List Str) × Int))) => R.ok v_longer) else ((R.ok ()).bind fun (_ : Unit) => R.ok s5)).bind fun (v_longer : (List ((List Str) × Int))) => R.ok v_longer)
def T_walked_by_b2 (v_net : (List (Str × (List Str) × (List Str) × Int × (List (List Int))))) (v_setting : (List (Str × Str))) (v_more : (List (Str × Str))) (a2 : (Str × (List Str) × (List Str) × Int × (List (List Int)))) (v_name : Str) (s3 : (List ((List Str) × Int))) (a4 : ((List Str) × Int)) : R (List ((List Str) × Int)) := ((((R.ok a2.2.1).bind fun l => (T_row_by v_net a2 a4.1).bind fun k => R.ok (l.zip k)).bind fun l => foldR (T_walked_by_b1 v_setting v_more v_name a4) l s3).bind fun (v_longer : (List ((List Str) × Int))) => R.ok v_longer)
def T_walked_by_b3 (v_net : (List (Str × (List Str) × (List Str) × Int × (List (List Int))))) (v_setting : (List (Str × Str))) (v_more : (List (Str × Str))) (s1 : (List ((List Str) × Int))) (a2 : (Str × (List Str) × (List Str) × Int × (List (List Int)))) : R (List ((List Str) × Int)) := ((R.ok a2.1).bind fun (v_name : Str) => ((R.ok ([] : (List ((List Str) × Int)))).bind fun (v_longer : (List ((List Str) × Int))) => (((R.ok s1).bind fun l => foldR (T_walked_by_b2 v_net v_setting v_more a2 v_name) l v_longer).bind fun (v_longer : (List ((List Str) × Int))) => ((R.ok v_longer).bind fun (v_told : (List ((List Str) × Int))) => R.ok v_told))))
def T_walked_by (v_net : (List (Str × (List Str) × (List Str) × Int × (List (List Int))))) (v_setting : (List (Str × Str))) (v_more : (List (Str × Str))) : R (List ((List Str) × Int)) := ((R.ok [(([] : (List Str)), (1 : Int))]).bind fun (v_told : (List ((List Str) × Int))) => (((R.ok v_net).bind fun l => foldR (T_walked_by_b3 v_net v_setting v_more) l v_told).bind fun (v_told : (List ((List Str) × Int))) => (R.ok v_told)))
theorem sim_walked_by (v_net : (List (Str × (List Str) × (List Str) × Int × (List (List Int))))) (v_setting : (List (Str × Str))) (v_more : (List (Str × Str))) : Ref (M_walked_by [(eT (e5 D.str (eT D.str) (eT D.str) D.int (eT (eT D.int)))) v_net, (eDS D.str) v_setting, (eDS D.str) v_more]) ((T_walked_by v_net v_setting v_more).map (eL (e2 (eT D.str) D.int))) := by
  unfold M_walked_by
  exact run_xr (n := 11) (p := [some ((eT (e5 D.str (eT D.str) (eT D.str) D.int (eT (eT D.int)))) v_net), some ((eDS D.str) v_setting), some ((eDS D.str) v_more), none, none, none, none, none, none, none, none]) (by unfold G_walked_by T_walked_by; exact (sx_seq (sn_asg (i := 3) (ea := (eL (e2 (eT D.str) D.int))) (P := fun (v_told : (List ((List Str) × Int))) => [some ((eT (e5 D.str (eT D.str) (eT D.str) D.int (eT (eT D.int)))) v_net), some ((eDS D.str) v_setting), some ((eDS D.str) v_more), some ((eL (e2 (eT D.str) D.int)) v_told), none, none, none, none, none, none, none]) (by exact (SP.se (ea := (eL (e2 (eT D.str) D.int))) (x := [(([] : (List Str)), (1 : Int))]) (sp_lst (sa_cons (d := ((e2 (eT D.str) D.int) (([] : (List Str)), (1 : Int)))) (sp_tup (sa_cons (d := ((eT D.str) ([] : (List Str)))) (sp_tup sa_nil) (sa_cons (d := (D.int (1 : Int))) sp_c sa_nil))) sa_nil))))) (fun (v_told : (List ((List Str) × Int))) => (sx_seq (sn_for (P := fun (s1 : (List ((List Str) × Int))) => [some ((eT (e5 D.str (eT D.str) (eT D.str) D.int (eT (eT D.int)))) v_net), some ((eDS D.str) v_setting), some ((eDS D.str) v_more), some ((eL (e2 (eT D.str) D.int)) s1), none, none, none, none, none, none, none]) (Pt := fun (s1 : (List ((List Str) × Int))) (a2 : (Str × (List Str) × (List Str) × Int × (List (List Int)))) => [some ((eT (e5 D.str (eT D.str) (eT D.str) D.int (eT (eT D.int)))) v_net), some ((eDS D.str) v_setting), some ((eDS D.str) v_more), some ((eL (e2 (eT D.str) D.int)) s1), some ((e5 D.str (eT D.str) (eT D.str) D.int (eT (eT D.int))) a2), none, none, none, none, none, none]) (st := (T_walked_by_b3 v_net v_setting v_more)) v_told (si_tup (ea := (e5 D.str (eT D.str) (eT D.str) D.int (eT (eT D.int)))) (SP.se (ea := (eT (e5 D.str (eT D.str) (eT D.str) D.int (eT (eT D.int))))) (x := v_net) (sp_var (i := 0)))) (by exact And.intro rfl (And.intro rfl (And.intro rfl (And.intro rfl (trivial))))) (fun _ => tg_name) (fun s1 a2 => by unfold T_walked_by_b3; exact (sn_seq (sn_asg (i := 5) (ea := D.str) (P := fun (v_name : Str) => [some ((eT (e5 D.str (eT D.str) (eT D.str) D.int (eT (eT D.int)))) v_net), some ((eDS D.str) v_setting), some ((eDS D.str) v_more), some ((eL (e2 (eT D.str) D.int)) s1), some ((e5 D.str (eT D.str) (eT D.str) D.int (eT (eT D.int))) a2), some (D.str v_name), none, none, none, none, none]) (by exact (SP.se (ea := D.str) (x := a2.1) (sp_ix (d := D.str a2.1) rfl (sp_var (i := 4)) sp_c)))) (fun (v_name : Str) => (sn_seq (sn_asg (i := 6) (ea := (eL (e2 (eT D.str) D.int))) (P := fun (v_longer : (List ((List Str) × Int))) => [some ((eT (e5 D.str (eT D.str) (eT D.str) D.int (eT (eT D.int)))) v_net), some ((eDS D.str) v_setting), some ((eDS D.str) v_more), some ((eL (e2 (eT D.str) D.int)) s1), some ((e5 D.str (eT D.str) (eT D.str) D.int (eT (eT D.int))) a2), some (D.str v_name), some ((eL (e2 (eT D.str) D.int)) v_longer), none, none, none, none]) (by exact (SP.se (ea := (eL (e2 (eT D.str) D.int))) (x := ([] : (List ((List Str) × Int)))) (sp_lst sa_nil)))) (fun (v_longer : (List ((List Str) × Int))) => (sn_seq (sn_for (P := fun (s3 : (List ((List Str) × Int))) => [some ((eT (e5 D.str (eT D.str) (eT D.str) D.int (eT (eT D.int)))) v_net), some ((eDS D.str) v_setting), some ((eDS D.str) v_more), some ((eL (e2 (eT D.str) D.int)) s1), some ((e5 D.str (eT D.str) (eT D.str) D.int (eT (eT D.int))) a2), some (D.str v_name), some ((eL (e2 (eT D.str) D.int)) s3), none, none, none, none]) (Pt := fun (s3 : (List ((List Str) × Int))) (a4 : ((List Str) × Int)) => [some ((eT (e5 D.str (eT D.str) (eT D.str) D.int (eT (eT D.int)))) v_net), some ((eDS D.str) v_setting), some ((eDS D.str) v_more), some ((eL (e2 (eT D.str) D.int)) s1), some ((e5 D.str (eT D.str) (eT D.str) D.int (eT (eT D.int))) a2), some (D.str v_name), some ((eL (e2 (eT D.str) D.int)) s3), some ((eT D.str) a4.1), some (D.int a4.2), none, none]) (st := (T_walked_by_b2 v_net v_setting v_more a2 v_name)) v_longer (si_lst (ea := (e2 (eT D.str) D.int)) (SP.se (ea := (eL (e2 (eT D.str) D.int))) (x := s1) (sp_var (i := 3)))) (by exact And.intro rfl (And.intro rfl (And.intro rfl (And.intro rfl (And.intro rfl (And.intro rfl (And.intro rfl (trivial)))))))) (fun _ => (fun _ _ he => ⟨_, rfl, ((he.set 7).set 8)⟩)) (fun s3 a4 => by unfold T_walked_by_b2; exact (sn_yield (P := fun (s3 : (List ((List Str) × Int))) => [some ((eT (e5 D.str (eT D.str) (eT D.str) D.int (eT (eT D.int)))) v_net), some ((eDS D.str) v_setting), some ((eDS D.str) v_more), some ((eL (e2 (eT D.str) D.int)) s1), some ((e5 D.str (eT D.str) (eT D.str) D.int (eT (eT D.int))) a2), some (D.str v_name), some ((eL (e2 (eT D.str) D.int)) s3), none, none, none, none]) (sn_forP (P := fun (s5 : (List ((List Str) × Int))) => [some ((eT (e5 D.str (eT D.str) (eT D.str) D.int (eT (eT D.int)))) v_net), some ((eDS D.str) v_setting), some ((eDS D.str) v_more), some ((eL (e2 (eT D.str) D.int)) s1), some ((e5 D.str (eT D.str) (eT D.str) D.int (eT (eT D.int))) a2), some (D.str v_name), some ((eL (e2 (eT D.str) D.int)) s5), some ((eT D.str) a4.1), some (D.int a4.2), none, none]) (Pt := fun (s5 : (List ((List Str) × Int))) (a6 : (Str × Int)) => [some ((eT (e5 D.str (eT D.str) (eT D.str) D.int (eT (eT D.int)))) v_net), some ((eDS D.str) v_setting), some ((eDS D.str) v_more), some ((eL (e2 (eT D.str) D.int)) s1), some ((e5 D.str (eT D.str) (eT D.str) D.int (eT (eT D.int))) a2), some (D.str v_name), some ((eL (e2 (eT D.str) D.int)) s5), some ((eT D.str) a4.1), some (D.int a4.2), some (D.str a6.1), some (D.int a6.2)]) (st := (T_walked_by_b1 v_setting v_more v_name a4)) s3 (si_zipT (SP.se (ea := (eT D.str)) (x := a2.2.1) (sp_ix (d := (eT D.str) a2.2.1) rfl (sp_var (i := 4)) sp_c)) (se_call (sa_cons (d := ((eT (e5 D.str (eT D.str) (eT D.str) D.int (eT (eT D.int)))) v_net)) (sp_var (i := 0)) (sa_cons (d := ((e5 D.str (eT D.str) (eT D.str) D.int (eT (eT D.int))) a2)) (sp_var (i := 4)) (sa_cons (d := ((eT D.str) a4.1)) (sp_var (i := 7)) sa_nil))) (sim_row_by v_net a2 a4.1))) (by exact And.intro rfl (And.intro rfl (And.intro rfl (And.intro rfl (And.intro rfl (And.intro rfl (And.intro rfl (And.intro rfl (And.intro rfl (trivial)))))))))) (fun _ _ _ he => (he.set 9).set 10) (fun s5 a6 => by unfold T_walked_by_b1; exact (sn_yield (P := fun (s5 : (List ((List Str) × Int))) => [some ((eT (e5 D.str (eT D.str) (eT D.str) D.int (eT (eT D.int)))) v_net), some ((eDS D.str) v_setting), some ((eDS D.str) v_more), some ((eL (e2 (eT D.str) D.int)) s1), some ((e5 D.str (eT D.str) (eT D.str) D.int (eT (eT D.int))) a2), some (D.str v_name), some ((eL (e2 (eT D.str) D.int)) s5), some ((eT D.str) a4.1), some (D.int a4.2), none, none]) (sn_if (by exact (SCp.sc (sc_and (sc_val (sp_op (k := gEq) (d := D.bl (decide (((valD v_setting v_name).getD a6.1) = a6.1))) rfl (sp_dget2 (l := v_setting) (k := v_name) (z := a6.1) key_S flt_str (sp_var (i := 1)) (sp_var (i := 5)) (sp_var (i := 9))) (sp_var (i := 9)))) (sc_val (sp_op (k := gEq) (d := D.bl (decide (((valD v_more v_name).getD a6.1) = a6.1))) rfl (sp_dget2 (l := v_more) (k := v_name) (z := a6.1) key_S flt_str (sp_var (i := 2)) (sp_var (i := 5)) (sp_var (i := 9))) (sp_var (i := 9))))))) (sn_yield (P := fun (v_longer : (List ((List Str) × Int))) => [some ((eT (e5 D.str (eT D.str) (eT D.str) D.int (eT (eT D.int)))) v_net), some ((eDS D.str) v_setting), some ((eDS D.str) v_more), some ((eL (e2 (eT D.str) D.int)) s1), some ((e5 D.str (eT D.str) (eT D.str) D.int (eT (eT D.int))) a2), some (D.str v_name), some ((eL (e2 (eT D.str) D.int)) v_longer), some ((eT D.str) a4.1), some (D.int a4.2), some (D.str a6.1), some (D.int a6.2)]) (sn_app (i := 6) (l := s5) (ea := (e2 (eT D.str) D.int)) (P := fun (v_longer : (List ((List Str) × Int))) => [some ((eT (e5 D.str (eT D.str) (eT D.str) D.int (eT (eT D.int)))) v_net), some ((eDS D.str) v_setting), some ((eDS D.str) v_more), some ((eL (e2 (eT D.str) D.int)) s1), some ((e5 D.str (eT D.str) (eT D.str) D.int (eT (eT D.int))) a2), some (D.str v_name), some ((eL (e2 (eT D.str) D.int)) v_longer), some ((eT D.str) a4.1), some (D.int a4.2), some (D.str a6.1), some (D.int a6.2)]) rfl (se_tup (ea := (e2 (eT D.str) D.int)) (T := fun (t : ((List Str) × Int × Unit)) => (t.1, t.2.1)) (sa_consE (se_catT (SP.se (ea := (eT D.str)) (x := a4.1) (sp_var (i := 7))) (SP.se (ea := (eT D.str)) (x := [a6.1]) (sp_tup (sa_cons (d := (D.str a6.1)) (sp_var (i := 9)) sa_nil)))) (sa_consE (se_opP (k := gMul) (ec := D.int) (k_mul a4.2 a6.2) (sp_var (i := 8)) (sp_var (i := 10))) sa_nilE)) (fun _ => rfl))) (fun (v_longer : (List ((List Str) × Int))) => v_longer) (fun (v_longer : (List ((List Str) × Int))) => by exact And.intro rfl (And.intro rfl (And.intro rfl (And.intro rfl (And.intro rfl (And.intro rfl (And.intro rfl (And.intro rfl (And.intro rfl (And.intro rfl (And.intro rfl (trivial))))))))))))) (sn_yield (P := fun (v_longer : (List ((List Str) × Int))) => [some ((eT (e5 D.str (eT D.str) (eT D.str) D.int (eT (eT D.int)))) v_net), some ((eDS D.str) v_setting), some ((eDS D.str) v_more), some ((eL (e2 (eT D.str) D.int)) s1), some ((e5 D.str (eT D.str) (eT D.str) D.int (eT (eT D.int))) a2), some (D.str v_name), some ((eL (e2 (eT D.str) D.int)) v_longer), some ((eT D.str) a4.1), some (D.int a4.2), some (D.str a6.1), some (D.int a6.2)]) sn_nil (fun (_ : Unit) => s5) (fun (_ : Unit) => by exact And.intro rfl (And.intro rfl (And.intro rfl (And.intro rfl (And.intro rfl (And.intro rfl (And.intro rfl (And.intro rfl (And.intro rfl (And.intro rfl (And.intro rfl (trivial)))))))))))))) (fun (v_longer : (List ((List Str) × Int))) => v_longer) (fun (v_longer : (List ((List Str) × Int))) => by exact And.intro rfl (And.intro rfl (And.intro rfl (And.intro rfl (And.intro rfl (And.intro rfl (And.intro rfl (And.intro rfl (And.intro rfl (trivial))))))))))))) (fun (v_longer : (List ((List Str) × Int))) => v_longer) (fun (v_longer : (List ((List Str) × Int))) => by exact And.intro rfl (And.intro rfl (And.intro rfl (And.intro rfl (And.intro rfl (And.intro rfl (And.intro rfl (trivial))))))))))) (fun (v_longer : (List ((List Str) × Int))) => (sn_yield (P := fun (s1 : (List ((List Str) × Int))) => [some ((eT (e5 D.str (eT D.str) (eT D.str) D.int (eT (eT D.int)))) v_net), some ((eDS D.str) v_setting), some ((eDS D.str) v_more), some ((eL (e2 (eT D.str) D.int)) s1), none, none, none, none, none, none, none]) (sn_asg (i := 3) (ea := (eL (e2 (eT D.str) D.int))) (P := fun (v_told : (List ((List Str) × Int))) => [some ((eT (e5 D.str (eT D.str) (eT D.str) D.int (eT (eT D.int)))) v_net), some ((eDS D.str) v_setting), some ((eDS D.str) v_more), some ((eL (e2 (eT D.str) D.int)) v_told), some ((e5 D.str (eT D.str) (eT D.str) D.int (eT (eT D.int))) a2), some (D.str v_name), some ((eL (e2 (eT D.str) D.int)) v_longer), none, none, none, none]) (by exact (SP.se (ea := (eL (e2 (eT D.str) D.int))) (x := v_longer) (sp_var (i := 6))))) (fun (v_told : (List ((List Str) × Int))) => v_told) (fun (v_told : (List ((List Str) × Int))) => by exact And.intro rfl (And.intro rfl (And.intro rfl (And.intro rfl (trivial)))))))))))))) (fun (v_told : (List ((List Str) × Int))) => (sx_ret (by exact (SP.se (ea := (eL (e2 (eT D.str) D.int))) (x := v_told) (sp_var (i := 3)))))))))) (And.intro rfl (And.intro rfl (And.intro rfl (trivial))))
def G_ways : List D → R Fl := (sRet (eCall M_walked_by (aCons (eVar 0) (aCons (eC (.dic [])) (aCons (eC (.dic [])) aNil)))))
def M_ways : List D → R D := runFr 1 (G_ways)
def T_ways (v_net : (List (Str × (List Str) × (List Str) × Int × (List (List Int))))) : R (List ((List Str) × Int)) := (T_walked_by v_net ([] : (List (Str × Str))) ([] : (List (Str × Str))))
theorem sim_ways (v_net : (List (Str × (List Str) × (List Str) × Int × (List (List Int))))) : Ref (M_ways [(eT (e5 D.str (eT D.str) (eT D.str) D.int (eT (eT D.int)))) v_net]) ((T_ways v_net).map (eL (e2 (eT D.str) D.int))) := by
  unfold M_ways
  exact run_xr (n := 1) (p := [some ((eT (e5 D.str (eT D.str) (eT D.str) D.int (eT (eT D.int)))) v_net)]) (by unfold G_ways T_ways; exact (sx_ret (by exact (se_call (sa_cons (d := ((eT (e5 D.str (eT D.str) (eT D.str) D.int (eT (eT D.int)))) v_net)) (sp_var (i := 0)) (sa_cons (d := ((eDS D.str) ([] : (List (Str × Str))))) sp_c (sa_cons (d := ((eDS D.str) ([] : (List (Str × Str))))) sp_c sa_nil))) (sim_walked_by v_net ([] : (List (Str × Str))) ([] : (List (Str × Str)))))))) (And.intro rfl (trivial))
def G_law_net : List D → R Fl := (sSeq (sAsg 1 (eLst aNil)) (sSeq (sFor (iLst (eVar 0)) (tgTup [2, 3, 4, 5]) (sSeq (sAsg 6 (eAsT .fr (eComp (iLst (eVar 5)) (tgName 7) tTrue (eAsT .im (eVar 7))))) (sOwn 1 gApp (aCons (eTup (aCons (eVar 2) (aCons (eAsT .im (eVar 3)) (aCons (eAsT .im (eVar 4)) (aCons (eB gSum (aCons (eIx (eVar 5) (eC (.int 0))) aNil)) (aCons (eVar 6) aNil)))))) aNil)))) (sRet (eAsT .oc (eVar 1)))))
def M_law_net : List D → R D := runF 8 (G_law_net)
def T_law_net_b1  (s1 : (List (Str × (List Str) × (List Str) × Int × (List (List Int))))) (a2 : (Str × (List Str) × (List Str) × (List (List Int)))) : R (List (Str × (List Str) × (List Str) × Int × (List (List Int)))) := (((R.ok a2.2.2.2).bind fun l => (cmpR (fun (a3 : (List Int)) => (R.ok true)) (fun (a3 : (List Int)) => (R.ok a3)) l).bind fitN).bind fun (v_numbers : (List (List Int))) => (((((R.ok a2.1).bind fun x => ((R.ok a2.2.1).bind fun x => ((R.ok a2.2.2.1).bind fun x => ((((atR a2.2.2.2 (0 : Int)).bind fun x => (R.ok ()).bind fun xs => R.ok (x, xs)).bind fun t => R.ok (List.sum t.1)).bind fun x => ((R.ok v_numbers).bind fun x => (R.ok ()).bind fun xs => R.ok (x, xs)).bind fun xs => R.ok (x, xs)).bind fun xs => R.ok (x, xs)).bind fun xs => R.ok (x, xs)).bind fun xs => R.ok (x, xs)).bind fun t => R.ok (t.1, t.2.1, t.2.2.1, t.2.2.2.1, t.2.2.2.2.1)).bind fun x => appR s1 x).bind fun (v_entries : (List (Str × (List Str) × (List Str) × Int × (List (List Int))))) => R.ok v_entries))
def T_law_net (v_rows_here : (List (Str × (List Str) × (List Str) × (List (List Int))))) : R (List (Str × (List Str) × (List Str) × Int × (List (List Int)))) := ((R.ok ([] : (List (Str × (List Str) × (List Str) × Int × (List (List Int)))))).bind fun (v_entries : (List (Str × (List Str) × (List Str) × Int × (List (List Int))))) => (((R.ok v_rows_here).bind fun l => foldR T_law_net_b1 l v_entries).bind fun (v_entries : (List (Str × (List Str) × (List Str) × Int × (List (List Int))))) => (R.ok v_entries)))
theorem sim_law_net (v_rows_here : (List (Str × (List Str) × (List Str) × (List (List Int))))) : Ref (M_law_net [(eL (e4 D.str (eL D.str) (eL D.str) (eL (eL D.int)))) v_rows_here]) ((T_law_net v_rows_here).map (eT (e5 D.str (eT D.str) (eT D.str) D.int (eT (eT D.int))))) := by
  unfold M_law_net
  exact run_x (n := 8) (p := [some ((eL (e4 D.str (eL D.str) (eL D.str) (eL (eL D.int)))) v_rows_here), none, none, none, none, none, none, none]) (by unfold G_law_net T_law_net; exact (sx_seq (sn_asg (i := 1) (ea := (eL (e5 D.str (eT D.str) (eT D.str) D.int (eT (eT D.int))))) (P := fun (v_entries : (List (Str × (List Str) × (List Str) × Int × (List (List Int))))) => [some ((eL (e4 D.str (eL D.str) (eL D.str) (eL (eL D.int)))) v_rows_here), some ((eL (e5 D.str (eT D.str) (eT D.str) D.int (eT (eT D.int)))) v_entries), none, none, none, none, none, none]) (by exact (SP.se (ea := (eL (e5 D.str (eT D.str) (eT D.str) D.int (eT (eT D.int))))) (x := ([] : (List (Str × (List Str) × (List Str) × Int × (List (List Int)))))) (sp_lst sa_nil)))) (fun (v_entries : (List (Str × (List Str) × (List Str) × Int × (List (List Int))))) => (sx_seq (sn_for (P := fun (s1 : (List (Str × (List Str) × (List Str) × Int × (List (List Int))))) => [some ((eL (e4 D.str (eL D.str) (eL D.str) (eL (eL D.int)))) v_rows_here), some ((eL (e5 D.str (eT D.str) (eT D.str) D.int (eT (eT D.int)))) s1), none, none, none, none, none, none]) (Pt := fun (s1 : (List (Str × (List Str) × (List Str) × Int × (List (List Int))))) (a2 : (Str × (List Str) × (List Str) × (List (List Int)))) => [some ((eL (e4 D.str (eL D.str) (eL D.str) (eL (eL D.int)))) v_rows_here), some ((eL (e5 D.str (eT D.str) (eT D.str) D.int (eT (eT D.int)))) s1), some (D.str a2.1), some ((eL D.str) a2.2.1), some ((eL D.str) a2.2.2.1), some ((eL (eL D.int)) a2.2.2.2), none, none]) (st := T_law_net_b1) v_entries (si_lst (ea := (e4 D.str (eL D.str) (eL D.str) (eL (eL D.int)))) (SP.se (ea := (eL (e4 D.str (eL D.str) (eL D.str) (eL (eL D.int))))) (x := v_rows_here) (sp_var (i := 0)))) (by exact And.intro rfl (And.intro rfl (trivial))) (fun _ => (fun _ _ he => ⟨_, rfl, ((((he.set 2).set 3).set 4).set 5)⟩)) (fun s1 a2 => by unfold T_law_net_b1; exact (sn_seq (sn_asg (i := 6) (ea := (eT (eT D.int))) (P := fun (v_numbers : (List (List Int))) => [some ((eL (e4 D.str (eL D.str) (eL D.str) (eL (eL D.int)))) v_rows_here), some ((eL (e5 D.str (eT D.str) (eT D.str) D.int (eT (eT D.int)))) s1), some (D.str a2.1), some ((eL D.str) a2.2.1), some ((eL D.str) a2.2.2.1), some ((eL (eL D.int)) a2.2.2.2), some ((eT (eT D.int)) v_numbers), none]) (by exact (se_asT (ea := (eT D.int)) (se_comp (Pt := fun (a3 : (List Int)) => [some ((eL (e4 D.str (eL D.str) (eL D.str) (eL (eL D.int)))) v_rows_here), some ((eL (e5 D.str (eT D.str) (eT D.str) D.int (eT (eT D.int)))) s1), some (D.str a2.1), some ((eL D.str) a2.2.1), some ((eL D.str) a2.2.2.1), some ((eL (eL D.int)) a2.2.2.2), none, some ((eL D.int) a3)]) (si_lst (ea := (eL D.int)) (SP.se (ea := (eL (eL D.int))) (x := a2.2.2.2) (sp_var (i := 5)))) (TGs.le (p' := [some ((eL (e4 D.str (eL D.str) (eL D.str) (eL (eL D.int)))) v_rows_here), some ((eL (e5 D.str (eT D.str) (eT D.str) D.int (eT (eT D.int)))) s1), some (D.str a2.1), some ((eL D.str) a2.2.1), some ((eL D.str) a2.2.2.1), some ((eL (eL D.int)) a2.2.2.2), none, none]) ((show PLe [some ((eL (e4 D.str (eL D.str) (eL D.str) (eL (eL D.int)))) v_rows_here), some ((eL (e5 D.str (eT D.str) (eT D.str) D.int (eT (eT D.int)))) s1), some (D.str a2.1), some ((eL D.str) a2.2.1), some ((eL D.str) a2.2.2.1), some ((eL (eL D.int)) a2.2.2.2), none, none] _ by exact And.intro rfl (And.intro rfl (And.intro rfl (And.intro rfl (And.intro rfl (And.intro rfl (trivial)))))))) tg_name) (fun a3 => (by exact (SCp.sc sc_true))) (fun a3 => (by exact (SP.se (ea := (eT D.int)) (x := a3) (sp_asT (ea := D.int) (l := a3) (sp_var (i := 7)) rfl))))) (fun _ => rfl)))) (fun (v_numbers : (List (List Int))) => (sn_yield (P := fun (s1 : (List (Str × (List Str) × (List Str) × Int × (List (List Int))))) => [some ((eL (e4 D.str (eL D.str) (eL D.str) (eL (eL D.int)))) v_rows_here), some ((eL (e5 D.str (eT D.str) (eT D.str) D.int (eT (eT D.int)))) s1), none, none, none, none, none, none]) (sn_app (i := 1) (l := s1) (ea := (e5 D.str (eT D.str) (eT D.str) D.int (eT (eT D.int)))) (P := fun (v_entries : (List (Str × (List Str) × (List Str) × Int × (List (List Int))))) => [some ((eL (e4 D.str (eL D.str) (eL D.str) (eL (eL D.int)))) v_rows_here), some ((eL (e5 D.str (eT D.str) (eT D.str) D.int (eT (eT D.int)))) v_entries), some (D.str a2.1), some ((eL D.str) a2.2.1), some ((eL D.str) a2.2.2.1), some ((eL (eL D.int)) a2.2.2.2), some ((eT (eT D.int)) v_numbers), none]) rfl (se_tup (ea := (e5 D.str (eT D.str) (eT D.str) D.int (eT (eT D.int)))) (T := fun (t : (Str × (List Str) × (List Str) × Int × (List (List Int)) × Unit)) => (t.1, t.2.1, t.2.2.1, t.2.2.2.1, t.2.2.2.2.1)) (sa_consE (SP.se (ea := D.str) (x := a2.1) (sp_var (i := 2))) (sa_consE (SP.se (ea := (eT D.str)) (x := a2.2.1) (sp_asT (ea := D.str) (l := a2.2.1) (sp_var (i := 3)) rfl)) (sa_consE (SP.se (ea := (eT D.str)) (x := a2.2.2.1) (sp_asT (ea := D.str) (l := a2.2.2.1) (sp_var (i := 4)) rfl)) (sa_consE (se_bE (k := gSum) (ea := D.int) (T := fun (t : ((List Int) × Unit)) => R.ok (List.sum t.1)) (sa_consE (se_ixP (ec := (eL D.int)) (k_atL a2.2.2.2 (0 : Int)) (sp_var (i := 5)) sp_c) sa_nilE) (fun t => Ref.of (congrArg ofO (g_sumL _)))) (sa_consE (SP.se (ea := (eT (eT D.int))) (x := v_numbers) (sp_var (i := 6))) sa_nilE))))) (fun _ => rfl))) (fun (v_entries : (List (Str × (List Str) × (List Str) × Int × (List (List Int))))) => v_entries) (fun (v_entries : (List (Str × (List Str) × (List Str) × Int × (List (List Int))))) => by exact And.intro rfl (And.intro rfl (trivial)))))))) (fun (v_entries : (List (Str × (List Str) × (List Str) × Int × (List (List Int))))) => (sx_ret (by exact (SP.se (ea := (eT (e5 D.str (eT D.str) (eT D.str) D.int (eT (eT D.int))))) (x := v_entries) (sp_asT (ea := (e5 D.str (eT D.str) (eT D.str) D.int (eT (eT D.int)))) (l := v_entries) (sp_var (i := 1)) rfl))))))))) (And.intro rfl (trivial))
def G_law_values : List D → R Fl := (sSeq (sFor (iTupl (eVar 0)) (tgName 2) (sIf (tVal (eOp gEq (eIx (eVar 2) (eC (.int 0))) (eVar 1))) (sRet (eIx (eVar 2) (eC (.int 1)))) sNil)) (sRet (eTup aNil)))
def M_law_values : List D → R D := runF 3 (G_law_values)
def T_law_values_b1 (v_name : Str) (s1 : Unit) (a2 : (Str × (List Str) × (List Str) × Int × (List (List Int)))) : R (TF Unit (List Str)) := ((R.ok (decide (a2.1 = v_name))).bind fun b => if b then ((R.ok a2.2.1).bind fun y => R.ok (TF.rt y)) else ((((R.ok ()).bind fun (_ : Unit) => R.ok ()).bind fun (_ : Unit) => R.ok ()).bind fun y => R.ok (TF.nx y)))
def T_law_values (v_net_here : (List (Str × (List Str) × (List Str) × Int × (List (List Int))))) (v_name : Str) : R (List Str) := (((R.ok v_net_here).bind fun l => forR (T_law_values_b1 v_name) l ()).bind fun t => t.thx fun _ => (R.ok ([] : (List Str))))
theorem sim_law_values (v_net_here : (List (Str × (List Str) × (List Str) × Int × (List (List Int))))) (v_name : Str) : Ref (M_law_values [(eT (e5 D.str (eT D.str) (eT D.str) D.int (eT (eT D.int)))) v_net_here, D.str v_name]) ((T_law_values v_net_here v_name).map (eT D.str)) := by
  unfold M_law_values
  exact run_x (n := 3) (p := [some ((eT (e5 D.str (eT D.str) (eT D.str) D.int (eT (eT D.int)))) v_net_here), some (D.str v_name), none]) (by unfold G_law_values T_law_values; exact (sx_seqB (sb_for (P := fun (s1 : Unit) => [some ((eT (e5 D.str (eT D.str) (eT D.str) D.int (eT (eT D.int)))) v_net_here), some (D.str v_name), none]) (Pt := fun (s1 : Unit) (a2 : (Str × (List Str) × (List Str) × Int × (List (List Int)))) => [some ((eT (e5 D.str (eT D.str) (eT D.str) D.int (eT (eT D.int)))) v_net_here), some (D.str v_name), some ((e5 D.str (eT D.str) (eT D.str) D.int (eT (eT D.int))) a2)]) (st := (T_law_values_b1 v_name)) () (si_tup (ea := (e5 D.str (eT D.str) (eT D.str) D.int (eT (eT D.int)))) (SP.se (ea := (eT (e5 D.str (eT D.str) (eT D.str) D.int (eT (eT D.int))))) (x := v_net_here) (sp_var (i := 0)))) (by exact And.intro rfl (And.intro rfl (trivial))) (fun _ => tg_name) (fun s1 a2 => by unfold T_law_values_b1; exact (sb_if (by exact (SCp.sc (sc_val (sp_op (k := gEq) (d := D.bl (decide (a2.1 = v_name))) rfl (sp_ix (d := D.str a2.1) rfl (sp_var (i := 2)) sp_c) (sp_var (i := 1)))))) (sb_x (P := fun (s1 : Unit) => [some ((eT (e5 D.str (eT D.str) (eT D.str) D.int (eT (eT D.int)))) v_net_here), some (D.str v_name), none]) (sx_ret (by exact (SP.se (ea := (eT D.str)) (x := a2.2.1) (sp_ix (d := (eT D.str) a2.2.1) rfl (sp_var (i := 2)) sp_c))))) (sb_n (sn_yield (P := fun (s1 : Unit) => [some ((eT (e5 D.str (eT D.str) (eT D.str) D.int (eT (eT D.int)))) v_net_here), some (D.str v_name), none]) (sn_yield (P := fun (_ : Unit) => [some ((eT (e5 D.str (eT D.str) (eT D.str) D.int (eT (eT D.int)))) v_net_here), some (D.str v_name), some ((e5 D.str (eT D.str) (eT D.str) D.int (eT (eT D.int))) a2)]) sn_nil (fun (_ : Unit) => ()) (fun (_ : Unit) => by exact And.intro rfl (And.intro rfl (And.intro rfl (trivial))))) (fun (_ : Unit) => ()) (fun (_ : Unit) => by exact And.intro rfl (And.intro rfl (trivial)))))))) (fun _ => (sx_ret (by exact (SP.se (ea := (eT D.str)) (x := ([] : (List Str))) (sp_tup sa_nil))))))) (And.intro rfl (And.intro rfl (trivial)))
def G_law_size : List D → R Fl := (sSeq (sAsg 2 (eC (.int 1))) (sSeq (sFor (iLst (eVar 1)) (tgName 3) (sAsg 2 (eOp gMul (eVar 2) (eB gLen (aCons (eCall M_law_values (aCons (eVar 0) (aCons (eVar 3) aNil))) aNil))))) (sRet (eVar 2))))
def M_law_size : List D → R D := runF 4 (G_law_size)
def T_law_size_b1 (v_net_here : (List (Str × (List Str) × (List Str) × Int × (List (List Int))))) (s1 : Int) (a2 : Str) : R Int := (((R.ok s1).bind fun x => (((T_law_values v_net_here a2).bind fun x => (R.ok ()).bind fun xs => R.ok (x, xs)).bind fun t => R.ok (t.1.length : Int)).bind fun y => mulR x y).bind fun (v_total : Int) => R.ok v_total)
def T_law_size (v_net_here : (List (Str × (List Str) × (List Str) × Int × (List (List Int))))) (v_names : (List Str)) : R Int := ((R.ok (1 : Int)).bind fun (v_total : Int) => (((R.ok v_names).bind fun l => foldR (T_law_size_b1 v_net_here) l v_total).bind fun (v_total : Int) => (R.ok v_total)))
theorem sim_law_size (v_net_here : (List (Str × (List Str) × (List Str) × Int × (List (List Int))))) (v_names : (List Str)) : Ref (M_law_size [(eT (e5 D.str (eT D.str) (eT D.str) D.int (eT (eT D.int)))) v_net_here, (eL D.str) v_names]) ((T_law_size v_net_here v_names).map D.int) := by
  unfold M_law_size
  exact run_x (n := 4) (p := [some ((eT (e5 D.str (eT D.str) (eT D.str) D.int (eT (eT D.int)))) v_net_here), some ((eL D.str) v_names), none, none]) (by unfold G_law_size T_law_size; exact (sx_seq (sn_asg (i := 2) (ea := D.int) (P := fun (v_total : Int) => [some ((eT (e5 D.str (eT D.str) (eT D.str) D.int (eT (eT D.int)))) v_net_here), some ((eL D.str) v_names), some (D.int v_total), none]) (by exact (SP.se (ea := D.int) (x := (1 : Int)) sp_c))) (fun (v_total : Int) => (sx_seq (sn_for (P := fun (s1 : Int) => [some ((eT (e5 D.str (eT D.str) (eT D.str) D.int (eT (eT D.int)))) v_net_here), some ((eL D.str) v_names), some (D.int s1), none]) (Pt := fun (s1 : Int) (a2 : Str) => [some ((eT (e5 D.str (eT D.str) (eT D.str) D.int (eT (eT D.int)))) v_net_here), some ((eL D.str) v_names), some (D.int s1), some (D.str a2)]) (st := (T_law_size_b1 v_net_here)) v_total (si_lst (ea := D.str) (SP.se (ea := (eL D.str)) (x := v_names) (sp_var (i := 1)))) (by exact And.intro rfl (And.intro rfl (And.intro rfl (trivial)))) (fun _ => tg_name) (fun s1 a2 => by unfold T_law_size_b1; exact (sn_yield (P := fun (s1 : Int) => [some ((eT (e5 D.str (eT D.str) (eT D.str) D.int (eT (eT D.int)))) v_net_here), some ((eL D.str) v_names), some (D.int s1), none]) (sn_asg (i := 2) (ea := D.int) (P := fun (v_total : Int) => [some ((eT (e5 D.str (eT D.str) (eT D.str) D.int (eT (eT D.int)))) v_net_here), some ((eL D.str) v_names), some (D.int v_total), some (D.str a2)]) (by exact (se_op (k := gMul) (ea := D.int) (eb := D.int) (ec := D.int) (h := fun x y => mulR x y) (fun x y => k_mul x y) (SP.se (ea := D.int) (x := s1) (sp_var (i := 2))) (se_bE (k := gLen) (ea := D.int) (T := fun (t : ((List Str) × Unit)) => R.ok (t.1.length : Int)) (sa_consE (se_call (sa_cons (d := ((eT (e5 D.str (eT D.str) (eT D.str) D.int (eT (eT D.int)))) v_net_here)) (sp_var (i := 0)) (sa_cons (d := (D.str a2)) (sp_var (i := 3)) sa_nil)) (sim_law_values v_net_here a2)) sa_nilE) (fun t => Ref.of (congrArg ofO (g_lenT _))))))) (fun (v_total : Int) => v_total) (fun (v_total : Int) => by exact And.intro rfl (And.intro rfl (And.intro rfl (trivial))))))) (fun (v_total : Int) => (sx_ret (by exact (SP.se (ea := D.int) (x := v_total) (sp_var (i := 2)))))))))) (And.intro rfl (And.intro rfl (trivial)))
def G_law_choice : List D → R Fl := (sSeq (sAsg 3 (eC (.dic []))) (sSeq (sFor (iRevL (eVar 1)) (tgName 4) (sSeq (sAsg 5 (eCall M_law_values (aCons (eVar 0) (aCons (eVar 4) aNil)))) (sSeq (sDPutV 3 (eVar 4) (eIx (eVar 5) (eOp gMod (eVar 2) (eB gLen (aCons (eVar 5) aNil))))) (sAsg 2 (eOp gFdiv (eVar 2) (eB gLen (aCons (eVar 5) aNil))))))) (sRet (eVar 3))))
def M_law_choice : List D → R D := runFr 6 (G_law_choice)
def T_law_choice_b1 (v_net_here : (List (Str × (List Str) × (List Str) × Int × (List (List Int))))) (s1 : (Int × (List (Str × Str)))) (a2 : Str) : R (Int × (List (Str × Str))) := ((T_law_values v_net_here a2).bind fun (v_values_here : (List Str)) => ((((R.ok v_values_here).bind fun x => (modR s1.1 (v_values_here.length : Int)).bind fun y => atR x y).bind fun x => (R.ok a2).bind fun k => putN s1.2 k x).bind fun (v_found : (List (Str × Str))) => ((divR s1.1 (v_values_here.length : Int)).bind fun (v_k : Int) => R.ok (v_k, v_found))))
def T_law_choice (v_net_here : (List (Str × (List Str) × (List Str) × Int × (List (List Int))))) (v_names : (List Str)) (v_k : Int) : R (List (Str × Str)) := ((R.ok ([] : (List (Str × Str)))).bind fun (v_found : (List (Str × Str))) => ((((R.ok v_names).bind fun l => R.ok l.reverse).bind fun l => foldR (T_law_choice_b1 v_net_here) l (v_k, v_found)).bind fun (y3 : (Int × (List (Str × Str)))) => (R.ok y3.2)))
theorem sim_law_choice (v_net_here : (List (Str × (List Str) × (List Str) × Int × (List (List Int))))) (v_names : (List Str)) (v_k : Int) : Ref (M_law_choice [(eT (e5 D.str (eT D.str) (eT D.str) D.int (eT (eT D.int)))) v_net_here, (eL D.str) v_names, D.int v_k]) ((T_law_choice v_net_here v_names v_k).map (eDS D.str)) := by
  unfold M_law_choice
  exact run_xr (n := 6) (p := [some ((eT (e5 D.str (eT D.str) (eT D.str) D.int (eT (eT D.int)))) v_net_here), some ((eL D.str) v_names), some (D.int v_k), none, none, none]) (by unfold G_law_choice T_law_choice; exact (sx_seq (sn_asg (i := 3) (ea := (eDS D.str)) (P := fun (v_found : (List (Str × Str))) => [some ((eT (e5 D.str (eT D.str) (eT D.str) D.int (eT (eT D.int)))) v_net_here), some ((eL D.str) v_names), some (D.int v_k), some ((eDS D.str) v_found), none, none]) (by exact (SP.se (ea := (eDS D.str)) (x := ([] : (List (Str × Str)))) sp_c))) (fun (v_found : (List (Str × Str))) => (sx_seq (sn_for (P := fun (s1 : (Int × (List (Str × Str)))) => [some ((eT (e5 D.str (eT D.str) (eT D.str) D.int (eT (eT D.int)))) v_net_here), some ((eL D.str) v_names), some (D.int s1.1), some ((eDS D.str) s1.2), none, none]) (Pt := fun (s1 : (Int × (List (Str × Str)))) (a2 : Str) => [some ((eT (e5 D.str (eT D.str) (eT D.str) D.int (eT (eT D.int)))) v_net_here), some ((eL D.str) v_names), some (D.int s1.1), some ((eDS D.str) s1.2), some (D.str a2), none]) (st := (T_law_choice_b1 v_net_here)) (v_k, v_found) (si_revL (SP.se (ea := (eL D.str)) (x := v_names) (sp_var (i := 1)))) (by exact And.intro rfl (And.intro rfl (And.intro rfl (And.intro rfl (trivial))))) (fun _ => tg_name) (fun s1 a2 => by unfold T_law_choice_b1; exact (sn_seq (sn_asg (i := 5) (ea := (eT D.str)) (P := fun (v_values_here : (List Str)) => [some ((eT (e5 D.str (eT D.str) (eT D.str) D.int (eT (eT D.int)))) v_net_here), some ((eL D.str) v_names), some (D.int s1.1), some ((eDS D.str) s1.2), some (D.str a2), some ((eT D.str) v_values_here)]) (by exact (se_call (sa_cons (d := ((eT (e5 D.str (eT D.str) (eT D.str) D.int (eT (eT D.int)))) v_net_here)) (sp_var (i := 0)) (sa_cons (d := (D.str a2)) (sp_var (i := 4)) sa_nil)) (sim_law_values v_net_here a2)))) (fun (v_values_here : (List Str)) => (sn_seq (sn_dput (i := 3) (l := s1.2) (f := D.str) (P := fun (v_found : (List (Str × Str))) => [some ((eT (e5 D.str (eT D.str) (eT D.str) D.int (eT (eT D.int)))) v_net_here), some ((eL D.str) v_names), some (D.int s1.1), some ((eDS D.str) v_found), some (D.str a2), some ((eT D.str) v_values_here)]) key_S rfl (by exact (se_ix (ea := (eT D.str)) (eb := D.int) (ec := D.str) (h := fun x y => atR x y) (fun x y => k_atT x y) (SP.se (ea := (eT D.str)) (x := v_values_here) (sp_var (i := 5))) (se_opP (k := gMod) (ec := D.int) (k_mod s1.1 (v_values_here.length : Int)) (sp_var (i := 2)) (sp_b (k := gLen) (d := D.int (v_values_here.length : Int)) (sa_cons (d := ((eT D.str) v_values_here)) (sp_var (i := 5)) sa_nil) (g_lenT _))))) (by exact (SP.se (ea := D.str) (x := a2) (sp_var (i := 4))))) (fun (v_found : (List (Str × Str))) => (sn_yield (P := fun (s1 : (Int × (List (Str × Str)))) => [some ((eT (e5 D.str (eT D.str) (eT D.str) D.int (eT (eT D.int)))) v_net_here), some ((eL D.str) v_names), some (D.int s1.1), some ((eDS D.str) s1.2), none, none]) (sn_asg (i := 2) (ea := D.int) (P := fun (v_k : Int) => [some ((eT (e5 D.str (eT D.str) (eT D.str) D.int (eT (eT D.int)))) v_net_here), some ((eL D.str) v_names), some (D.int v_k), some ((eDS D.str) v_found), some (D.str a2), some ((eT D.str) v_values_here)]) (by exact (se_opP (k := gFdiv) (ec := D.int) (k_fdiv s1.1 (v_values_here.length : Int)) (sp_var (i := 2)) (sp_b (k := gLen) (d := D.int (v_values_here.length : Int)) (sa_cons (d := ((eT D.str) v_values_here)) (sp_var (i := 5)) sa_nil) (g_lenT _))))) (fun (v_k : Int) => (v_k, v_found)) (fun (v_k : Int) => by exact And.intro rfl (And.intro rfl (And.intro rfl (And.intro rfl (trivial)))))))))))) (fun (y3 : (Int × (List (Str × Str)))) => (sx_ret (by exact (SP.se (ea := (eDS D.str)) (x := y3.2) (sp_var (i := 3)))))))))) (And.intro rfl (And.intro rfl (And.intro rfl (trivial))))
def G_law_part : List D → R Fl := (sSeq (sAsg 3 (eC (.int 0))) (sSeq (sFor (iTupl (eIx (eVar 1) (eC (.int 2)))) (tgName 4) (sSeq (sAsg 5 (eCall M_law_values (aCons (eVar 0) (aCons (eVar 4) aNil)))) (sAsg 3 (eOp gAdd (eOp gMul (eVar 3) (eB gLen (aCons (eVar 5) aNil))) (eIdxT (eVar 5) (eDGet (eVar 2) (eVar 4))))))) (sRet (eIx (eIx (eIx (eVar 1) (eC (.int 4))) (eVar 3)) (eIdxT (eIx (eVar 1) (eC (.int 1))) (eDGet (eVar 2) (eIx (eVar 1) (eC (.int 0)))))))))
def M_law_part : List D → R D := runF 6 (G_law_part)
def T_law_part_b1 (v_net_here : (List (Str × (List Str) × (List Str) × Int × (List (List Int))))) (v_choice_here : (List (Str × Str))) (s1 : Int) (a2 : Str) : R Int := ((T_law_values v_net_here a2).bind fun (v_values_here : (List Str)) => (((mulR s1 (v_values_here.length : Int)).bind fun x => ((R.ok v_values_here).bind fun l => (dgetR v_choice_here a2).bind fun x => idxR l x).bind fun y => R.ok (x + y)).bind fun (v_at : Int) => R.ok v_at))
def T_law_part (v_net_here : (List (Str × (List Str) × (List Str) × Int × (List (List Int))))) (v_entry : (Str × (List Str) × (List Str) × Int × (List (List Int)))) (v_choice_here : (List (Str × Str))) : R Int := ((R.ok (0 : Int)).bind fun (v_at : Int) => (((R.ok v_entry.2.2.1).bind fun l => foldR (T_law_part_b1 v_net_here v_choice_here) l v_at).bind fun (v_at : Int) => ((atR v_entry.2.2.2.2 v_at).bind fun x => ((R.ok v_entry.2.1).bind fun l => (dgetR v_choice_here v_entry.1).bind fun x => idxR l x).bind fun y => atR x y)))
theorem sim_law_part (v_net_here : (List (Str × (List Str) × (List Str) × Int × (List (List Int))))) (v_entry : (Str × (List Str) × (List Str) × Int × (List (List Int)))) (v_choice_here : (List (Str × Str))) : Ref (M_law_part [(eT (e5 D.str (eT D.str) (eT D.str) D.int (eT (eT D.int)))) v_net_here, (e5 D.str (eT D.str) (eT D.str) D.int (eT (eT D.int))) v_entry, (eDS D.str) v_choice_here]) ((T_law_part v_net_here v_entry v_choice_here).map D.int) := by
  unfold M_law_part
  exact run_x (n := 6) (p := [some ((eT (e5 D.str (eT D.str) (eT D.str) D.int (eT (eT D.int)))) v_net_here), some ((e5 D.str (eT D.str) (eT D.str) D.int (eT (eT D.int))) v_entry), some ((eDS D.str) v_choice_here), none, none, none]) (by unfold G_law_part T_law_part; exact (sx_seq (sn_asg (i := 3) (ea := D.int) (P := fun (v_at : Int) => [some ((eT (e5 D.str (eT D.str) (eT D.str) D.int (eT (eT D.int)))) v_net_here), some ((e5 D.str (eT D.str) (eT D.str) D.int (eT (eT D.int))) v_entry), some ((eDS D.str) v_choice_here), some (D.int v_at), none, none]) (by exact (SP.se (ea := D.int) (x := (0 : Int)) sp_c))) (fun (v_at : Int) => (sx_seq (sn_for (P := fun (s1 : Int) => [some ((eT (e5 D.str (eT D.str) (eT D.str) D.int (eT (eT D.int)))) v_net_here), some ((e5 D.str (eT D.str) (eT D.str) D.int (eT (eT D.int))) v_entry), some ((eDS D.str) v_choice_here), some (D.int s1), none, none]) (Pt := fun (s1 : Int) (a2 : Str) => [some ((eT (e5 D.str (eT D.str) (eT D.str) D.int (eT (eT D.int)))) v_net_here), some ((e5 D.str (eT D.str) (eT D.str) D.int (eT (eT D.int))) v_entry), some ((eDS D.str) v_choice_here), some (D.int s1), some (D.str a2), none]) (st := (T_law_part_b1 v_net_here v_choice_here)) v_at (si_tup (ea := D.str) (SP.se (ea := (eT D.str)) (x := v_entry.2.2.1) (sp_ix (d := (eT D.str) v_entry.2.2.1) rfl (sp_var (i := 1)) sp_c))) (by exact And.intro rfl (And.intro rfl (And.intro rfl (And.intro rfl (trivial))))) (fun _ => tg_name) (fun s1 a2 => by unfold T_law_part_b1; exact (sn_seq (sn_asg (i := 5) (ea := (eT D.str)) (P := fun (v_values_here : (List Str)) => [some ((eT (e5 D.str (eT D.str) (eT D.str) D.int (eT (eT D.int)))) v_net_here), some ((e5 D.str (eT D.str) (eT D.str) D.int (eT (eT D.int))) v_entry), some ((eDS D.str) v_choice_here), some (D.int s1), some (D.str a2), some ((eT D.str) v_values_here)]) (by exact (se_call (sa_cons (d := ((eT (e5 D.str (eT D.str) (eT D.str) D.int (eT (eT D.int)))) v_net_here)) (sp_var (i := 0)) (sa_cons (d := (D.str a2)) (sp_var (i := 4)) sa_nil)) (sim_law_values v_net_here a2)))) (fun (v_values_here : (List Str)) => (sn_yield (P := fun (s1 : Int) => [some ((eT (e5 D.str (eT D.str) (eT D.str) D.int (eT (eT D.int)))) v_net_here), some ((e5 D.str (eT D.str) (eT D.str) D.int (eT (eT D.int))) v_entry), some ((eDS D.str) v_choice_here), some (D.int s1), none, none]) (sn_asg (i := 3) (ea := D.int) (P := fun (v_at : Int) => [some ((eT (e5 D.str (eT D.str) (eT D.str) D.int (eT (eT D.int)))) v_net_here), some ((e5 D.str (eT D.str) (eT D.str) D.int (eT (eT D.int))) v_entry), some ((eDS D.str) v_choice_here), some (D.int v_at), some (D.str a2), some ((eT D.str) v_values_here)]) (by exact (se_op (k := gAdd) (ea := D.int) (eb := D.int) (ec := D.int) (h := fun (x : Int) (y : Int) => R.ok (x + y)) (fun x y => Ref.of rfl) (se_opP (k := gMul) (ec := D.int) (k_mul s1 (v_values_here.length : Int)) (sp_var (i := 3)) (sp_b (k := gLen) (d := D.int (v_values_here.length : Int)) (sa_cons (d := ((eT D.str) v_values_here)) (sp_var (i := 5)) sa_nil) (g_lenT _))) (se_idxT (SP.se (ea := (eT D.str)) (x := v_values_here) (sp_var (i := 5))) (se_dgetP (f := D.str) (l := v_choice_here) (k := a2) key_S (sp_var (i := 2)) (sp_var (i := 4))))))) (fun (v_at : Int) => v_at) (fun (v_at : Int) => by exact And.intro rfl (And.intro rfl (And.intro rfl (And.intro rfl (trivial)))))))))) (fun (v_at : Int) => (sx_ret (by exact (se_ix (ea := (eT D.int)) (eb := D.int) (ec := D.int) (h := fun x y => atR x y) (fun x y => k_atT x y) (se_ixP (ec := (eT D.int)) (k_atT v_entry.2.2.2.2 v_at) (sp_ix (d := (eT (eT D.int)) v_entry.2.2.2.2) rfl (sp_var (i := 1)) sp_c) (sp_var (i := 3))) (se_idxT (SP.se (ea := (eT D.str)) (x := v_entry.2.1) (sp_ix (d := (eT D.str) v_entry.2.1) rfl (sp_var (i := 1)) sp_c)) (se_dgetP (f := D.str) (l := v_choice_here) (k := v_entry.1) key_S (sp_var (i := 2)) (sp_ix (d := D.str v_entry.1) rfl (sp_var (i := 1)) sp_c))))))))))) (And.intro rfl (And.intro rfl (And.intro rfl (trivial))))
def G_law_all : List D → R Fl := (sSeq (sAsg 1 (eComp (iTupl (eVar 0)) (tgName 2) tTrue (eIx (eVar 2) (eC (.int 0))))) (sSeq (sAsg 3 (eLst aNil)) (sSeq (sFor (iRng rng1 (aCons (eCall M_law_size (aCons (eVar 0) (aCons (eVar 1) aNil))) aNil)) (tgName 4) (sSeq (sAsg 5 (eCall M_law_choice (aCons (eVar 0) (aCons (eVar 1) (aCons (eVar 4) aNil))))) (sSeq (sAsg 6 (eC (.int 1))) (sSeq (sFor (iTupl (eVar 0)) (tgName 2) (sAsg 6 (eOp gMul (eVar 6) (eCall M_law_part (aCons (eVar 0) (aCons (eVar 2) (aCons (eVar 5) aNil))))))) (sOwn 3 gApp (aCons (eTup (aCons (eVar 5) (aCons (eVar 6) aNil))) aNil)))))) (sRet (eVar 3)))))
def M_law_all : List D → R D := runFr 7 (G_law_all)
def T_law_all_b1 (v_net_here : (List (Str × (List Str) × (List Str) × Int × (List (List Int))))) (v_choice_here : (List (Str × Str))) (s4 : Int) (a5 : (Str × (List Str) × (List Str) × Int × (List (List Int)))) : R Int := (((R.ok s4).bind fun x => (T_law_part v_net_here a5 v_choice_here).bind fun y => mulR x y).bind fun (v_parts : Int) => R.ok v_parts)
def T_law_all_b2 (v_net_here : (List (Str × (List Str) × (List Str) × Int × (List (List Int))))) (v_names : (List Str)) (s2 : (List ((List (Str × Str)) × Int))) (a3 : Int) : R (List ((List (Str × Str)) × Int)) := ((T_law_choice v_net_here v_names a3).bind fun (v_choice_here : (List (Str × Str))) => ((R.ok (1 : Int)).bind fun (v_parts : Int) => (((R.ok v_net_here).bind fun l => foldR (T_law_all_b1 v_net_here v_choice_here) l v_parts).bind fun (v_parts : Int) => ((appR s2 (v_choice_here, v_parts)).bind fun (v_found : (List ((List (Str × Str)) × Int))) => R.ok v_found))))
def T_law_all (v_net_here : (List (Str × (List Str) × (List Str) × Int × (List (List Int))))) : R (List ((List (Str × Str)) × Int)) := (((R.ok v_net_here).bind fun l => (cmpR (fun (a1 : (Str × (List Str) × (List Str) × Int × (List (List Int)))) => (R.ok true)) (fun (a1 : (Str × (List Str) × (List Str) × Int × (List (List Int)))) => (R.ok a1.1)) l).bind fitN).bind fun (v_names : (List Str)) => ((R.ok ([] : (List ((List (Str × Str)) × Int)))).bind fun (v_found : (List ((List (Str × Str)) × Int))) => ((((T_law_size v_net_here v_names).bind rngR1).bind fun l => foldR (T_law_all_b2 v_net_here v_names) l v_found).bind fun (v_found : (List ((List (Str × Str)) × Int))) => (R.ok v_found))))
theorem sim_law_all (v_net_here : (List (Str × (List Str) × (List Str) × Int × (List (List Int))))) : Ref (M_law_all [(eT (e5 D.str (eT D.str) (eT D.str) D.int (eT (eT D.int)))) v_net_here]) ((T_law_all v_net_here).map (eL (e2 (eDS D.str) D.int))) := by
  unfold M_law_all
  exact run_xr (n := 7) (p := [some ((eT (e5 D.str (eT D.str) (eT D.str) D.int (eT (eT D.int)))) v_net_here), none, none, none, none, none, none]) (by unfold G_law_all T_law_all; exact (sx_seq (sn_asg (i := 1) (ea := (eL D.str)) (P := fun (v_names : (List Str)) => [some ((eT (e5 D.str (eT D.str) (eT D.str) D.int (eT (eT D.int)))) v_net_here), some ((eL D.str) v_names), none, none, none, none, none]) (by exact (se_comp (Pt := fun (a1 : (Str × (List Str) × (List Str) × Int × (List (List Int)))) => [some ((eT (e5 D.str (eT D.str) (eT D.str) D.int (eT (eT D.int)))) v_net_here), none, some ((e5 D.str (eT D.str) (eT D.str) D.int (eT (eT D.int))) a1), none, none, none, none]) (si_tup (ea := (e5 D.str (eT D.str) (eT D.str) D.int (eT (eT D.int)))) (SP.se (ea := (eT (e5 D.str (eT D.str) (eT D.str) D.int (eT (eT D.int))))) (x := v_net_here) (sp_var (i := 0)))) (TGs.le (p' := [some ((eT (e5 D.str (eT D.str) (eT D.str) D.int (eT (eT D.int)))) v_net_here), none, none, none, none, none, none]) ((show PLe [some ((eT (e5 D.str (eT D.str) (eT D.str) D.int (eT (eT D.int)))) v_net_here), none, none, none, none, none, none] _ by exact And.intro rfl (trivial))) tg_name) (fun a1 => (by exact (SCp.sc sc_true))) (fun a1 => (by exact (SP.se (ea := D.str) (x := a1.1) (sp_ix (d := D.str a1.1) rfl (sp_var (i := 2)) sp_c))))))) (fun (v_names : (List Str)) => (sx_seq (sn_asg (i := 3) (ea := (eL (e2 (eDS D.str) D.int))) (P := fun (v_found : (List ((List (Str × Str)) × Int))) => [some ((eT (e5 D.str (eT D.str) (eT D.str) D.int (eT (eT D.int)))) v_net_here), some ((eL D.str) v_names), none, some ((eL (e2 (eDS D.str) D.int)) v_found), none, none, none]) (by exact (SP.se (ea := (eL (e2 (eDS D.str) D.int))) (x := ([] : (List ((List (Str × Str)) × Int)))) (sp_lst sa_nil)))) (fun (v_found : (List ((List (Str × Str)) × Int))) => (sx_seq (sn_for (P := fun (s2 : (List ((List (Str × Str)) × Int))) => [some ((eT (e5 D.str (eT D.str) (eT D.str) D.int (eT (eT D.int)))) v_net_here), some ((eL D.str) v_names), none, some ((eL (e2 (eDS D.str) D.int)) s2), none, none, none]) (Pt := fun (s2 : (List ((List (Str × Str)) × Int))) (a3 : Int) => [some ((eT (e5 D.str (eT D.str) (eT D.str) D.int (eT (eT D.int)))) v_net_here), some ((eL D.str) v_names), none, some ((eL (e2 (eDS D.str) D.int)) s2), some (D.int a3), none, none]) (st := (T_law_all_b2 v_net_here v_names)) v_found (si_rng1 (fs := aNil) (se_call (sa_cons (d := ((eT (e5 D.str (eT D.str) (eT D.str) D.int (eT (eT D.int)))) v_net_here)) (sp_var (i := 0)) (sa_cons (d := ((eL D.str) v_names)) (sp_var (i := 1)) sa_nil)) (sim_law_size v_net_here v_names))) (by exact And.intro rfl (And.intro rfl (And.intro rfl (trivial)))) (fun _ => tg_name) (fun s2 a3 => by unfold T_law_all_b2; exact (sn_seq (sn_asg (i := 5) (ea := (eDS D.str)) (P := fun (v_choice_here : (List (Str × Str))) => [some ((eT (e5 D.str (eT D.str) (eT D.str) D.int (eT (eT D.int)))) v_net_here), some ((eL D.str) v_names), none, some ((eL (e2 (eDS D.str) D.int)) s2), some (D.int a3), some ((eDS D.str) v_choice_here), none]) (by exact (se_call (sa_cons (d := ((eT (e5 D.str (eT D.str) (eT D.str) D.int (eT (eT D.int)))) v_net_here)) (sp_var (i := 0)) (sa_cons (d := ((eL D.str) v_names)) (sp_var (i := 1)) (sa_cons (d := (D.int a3)) (sp_var (i := 4)) sa_nil))) (sim_law_choice v_net_here v_names a3)))) (fun (v_choice_here : (List (Str × Str))) => (sn_seq (sn_asg (i := 6) (ea := D.int) (P := fun (v_parts : Int) => [some ((eT (e5 D.str (eT D.str) (eT D.str) D.int (eT (eT D.int)))) v_net_here), some ((eL D.str) v_names), none, some ((eL (e2 (eDS D.str) D.int)) s2), some (D.int a3), some ((eDS D.str) v_choice_here), some (D.int v_parts)]) (by exact (SP.se (ea := D.int) (x := (1 : Int)) sp_c))) (fun (v_parts : Int) => (sn_seq (sn_for (P := fun (s4 : Int) => [some ((eT (e5 D.str (eT D.str) (eT D.str) D.int (eT (eT D.int)))) v_net_here), some ((eL D.str) v_names), none, some ((eL (e2 (eDS D.str) D.int)) s2), some (D.int a3), some ((eDS D.str) v_choice_here), some (D.int s4)]) (Pt := fun (s4 : Int) (a5 : (Str × (List Str) × (List Str) × Int × (List (List Int)))) => [some ((eT (e5 D.str (eT D.str) (eT D.str) D.int (eT (eT D.int)))) v_net_here), some ((eL D.str) v_names), some ((e5 D.str (eT D.str) (eT D.str) D.int (eT (eT D.int))) a5), some ((eL (e2 (eDS D.str) D.int)) s2), some (D.int a3), some ((eDS D.str) v_choice_here), some (D.int s4)]) (st := (T_law_all_b1 v_net_here v_choice_here)) v_parts (si_tup (ea := (e5 D.str (eT D.str) (eT D.str) D.int (eT (eT D.int)))) (SP.se (ea := (eT (e5 D.str (eT D.str) (eT D.str) D.int (eT (eT D.int))))) (x := v_net_here) (sp_var (i := 0)))) (by exact And.intro rfl (And.intro rfl (And.intro rfl (And.intro rfl (And.intro rfl (And.intro rfl (trivial))))))) (fun _ => tg_name) (fun s4 a5 => by unfold T_law_all_b1; exact (sn_yield (P := fun (s4 : Int) => [some ((eT (e5 D.str (eT D.str) (eT D.str) D.int (eT (eT D.int)))) v_net_here), some ((eL D.str) v_names), none, some ((eL (e2 (eDS D.str) D.int)) s2), some (D.int a3), some ((eDS D.str) v_choice_here), some (D.int s4)]) (sn_asg (i := 6) (ea := D.int) (P := fun (v_parts : Int) => [some ((eT (e5 D.str (eT D.str) (eT D.str) D.int (eT (eT D.int)))) v_net_here), some ((eL D.str) v_names), some ((e5 D.str (eT D.str) (eT D.str) D.int (eT (eT D.int))) a5), some ((eL (e2 (eDS D.str) D.int)) s2), some (D.int a3), some ((eDS D.str) v_choice_here), some (D.int v_parts)]) (by exact (se_op (k := gMul) (ea := D.int) (eb := D.int) (ec := D.int) (h := fun x y => mulR x y) (fun x y => k_mul x y) (SP.se (ea := D.int) (x := s4) (sp_var (i := 6))) (se_call (sa_cons (d := ((eT (e5 D.str (eT D.str) (eT D.str) D.int (eT (eT D.int)))) v_net_here)) (sp_var (i := 0)) (sa_cons (d := ((e5 D.str (eT D.str) (eT D.str) D.int (eT (eT D.int))) a5)) (sp_var (i := 2)) (sa_cons (d := ((eDS D.str) v_choice_here)) (sp_var (i := 5)) sa_nil))) (sim_law_part v_net_here a5 v_choice_here))))) (fun (v_parts : Int) => v_parts) (fun (v_parts : Int) => by exact And.intro rfl (And.intro rfl (And.intro rfl (And.intro rfl (And.intro rfl (And.intro rfl (trivial)))))))))) (fun (v_parts : Int) => (sn_yield (P := fun (s2 : (List ((List (Str × Str)) × Int))) => [some ((eT (e5 D.str (eT D.str) (eT D.str) D.int (eT (eT D.int)))) v_net_here), some ((eL D.str) v_names), none, some ((eL (e2 (eDS D.str) D.int)) s2), none, none, none]) (sn_appP (i := 3) (l := s2) (x := (v_choice_here, v_parts)) (ea := (e2 (eDS D.str) D.int)) (P := fun (v_found : (List ((List (Str × Str)) × Int))) => [some ((eT (e5 D.str (eT D.str) (eT D.str) D.int (eT (eT D.int)))) v_net_here), some ((eL D.str) v_names), none, some ((eL (e2 (eDS D.str) D.int)) v_found), some (D.int a3), some ((eDS D.str) v_choice_here), some (D.int v_parts)]) rfl (sp_tup (sa_cons (d := ((eDS D.str) v_choice_here)) (sp_var (i := 5)) (sa_cons (d := (D.int v_parts)) (sp_var (i := 6)) sa_nil)))) (fun (v_found : (List ((List (Str × Str)) × Int))) => v_found) (fun (v_found : (List ((List (Str × Str)) × Int))) => by exact And.intro rfl (And.intro rfl (And.intro rfl (trivial))))))))))))) (fun (v_found : (List ((List (Str × Str)) × Int))) => (sx_ret (by exact (SP.se (ea := (eL (e2 (eDS D.str) D.int))) (x := v_found) (sp_var (i := 3)))))))))))) (And.intro rfl (trivial))
/-! ## choices by number -/
theorem range_mul (n : Nat) : ∀ S : Nat, List.range (S * n) = (List.range S).flatMap fun q => (List.range n).map fun r => q * n + r
  | 0 => by simp
  | S + 1 => by
    rw [Nat.succ_mul, List.range_add, range_mul n S, List.range_succ, List.flatMap_append]
    simp
def szF (vss : List (List Str)) : Nat := vss.foldl (fun n v => n * v.length) 1
theorem szF_snoc (vss : List (List Str)) (v : List Str) : szF (vss ++ [v]) = szF vss * v.length := by unfold szF; rw [List.foldl_append]; rfl
def digR : List (List Str) → Nat → List Str
  | [], _ => []
  | v :: rs, k => digR rs (k / v.length) ++ [v.getD (k % v.length) ""]
def digs (vss : List (List Str)) (k : Nat) : List Str := digR vss.reverse k
theorem digs_snoc (vss : List (List Str)) (v : List Str) (k : Nat) : digs (vss ++ [v]) k = digs vss (k / v.length) ++ [v.getD (k % v.length) ""] := by
  unfold digs
  rw [List.reverse_append]
  rfl
theorem digR_len : ∀ (rs : List (List Str)) (k : Nat), (digR rs k).length = rs.length
  | [], _ => rfl
  | v :: rs, k => by rw [digR, List.length_append, digR_len rs]; rfl
theorem digs_len (vss : List (List Str)) (k : Nat) : (digs vss k).length = vss.length := by unfold digs; rw [digR_len, List.length_reverse]
def cart (vss : List (List Str)) : List (List Str) := vss.foldl (fun acc v => acc.flatMap fun c => v.map fun x => c ++ [x]) [[]]
theorem cart_snoc (vss : List (List Str)) (v : List Str) : cart (vss ++ [v]) = (cart vss).flatMap fun c => v.map fun x => c ++ [x] := by unfold cart; rw [List.foldl_append]; rfl
theorem map_rangeD {α β : Type} (f : α → β) (d : α) (v : List α) : v.map f = (List.range v.length).map fun r => f (v.getD r d) := by
  refine List.ext_getElem? fun i => ?_
  rw [List.getElem?_map, List.getElem?_map]
  by_cases h : i < v.length
  · rw [List.getElem?_eq_getElem h, List.getElem?_range h]
    simp [List.getD, List.getElem?_eq_getElem h]
  · rw [List.getElem?_eq_none (by omega), List.getElem?_eq_none (by rw [List.length_range]; omega)]
    rfl
theorem cart_go : ∀ rs : List (List Str), cart rs.reverse = (List.range (szF rs.reverse)).map (digR rs)
  | [] => rfl
  | v :: rs => by
    rw [List.reverse_cons, cart_snoc, cart_go rs, szF_snoc, range_mul, List.map_flatMap, List.flatMap_map]
    congr 1
    funext q
    rw [map_rangeD _ ("" : Str) v, List.map_map]
    refine List.map_congr_left fun r hr => ?_
    have hr : r < v.length := List.mem_range.mp hr
    show _ = digR rs ((q * v.length + r) / v.length) ++ [v.getD ((q * v.length + r) % v.length) ""]
    rw [Nat.mul_comm q, Nat.mul_add_div (by omega), Nat.mul_add_mod, Nat.div_eq_of_lt hr, Nat.mod_eq_of_lt hr, Nat.add_zero]
theorem cart_eq (vss : List (List Str)) : cart vss = (List.range (szF vss)).map (digs vss) := by
  have h := cart_go vss.reverse
  rw [List.reverse_reverse] at h
  exact h
theorem cart_length (vss : List (List Str)) : (cart vss).length = szF vss := by rw [cart_eq, List.length_map, List.length_range]
theorem cart_mem_go : ∀ (rs : List (List Str)) (c : List Str), c ∈ cart rs.reverse → c.length = rs.length ∧ ∀ p ∈ rs.reverse.zip c, p.2 ∈ p.1
  | [], c, h => by
    have e : c = [] := List.mem_singleton.mp h
    subst e
    exact ⟨rfl, fun p hp => nomatch hp⟩
  | v :: rs, c, h => by
    rw [List.reverse_cons, cart_snoc, List.mem_flatMap] at h
    obtain ⟨c', hc', h⟩ := h
    obtain ⟨x, hx, rfl⟩ := List.mem_map.mp h
    obtain ⟨h1, h2⟩ := cart_mem_go rs c' hc'
    refine ⟨by rw [List.length_append, h1]; rfl, fun p hp => ?_⟩
    rw [List.reverse_cons, List.zip_append (by rw [List.length_reverse, h1])] at hp
    rcases List.mem_append.mp hp with hp | hp
    · exact h2 p hp
    · have e : p = (v, x) := List.mem_singleton.mp hp
      rw [e]
      exact hx
theorem cart_mem {vss : List (List Str)} {c : List Str} (h : c ∈ cart vss) : c.length = vss.length ∧ ∀ p ∈ vss.zip c, p.2 ∈ p.1 := by
  have z := cart_mem_go vss.reverse c
  rw [List.reverse_reverse, List.length_reverse] at z
  exact z h
/-! ## values by names -/
def lkF (ns c : List Str) (x : Str) : Str := c.getD (ns.idxOf x) ""
theorem idxOf_get {ns : List Str} {x : Str} (h : x ∈ ns) : ns[ns.idxOf x]? = some x := by
  have h1 := List.idxOf_lt_length_iff.mpr h
  rw [List.getElem?_eq_getElem h1, List.getElem_idxOf]
theorem lkF_zip {ns c : List Str} {x : Str} (h : x ∈ ns) (hl : c.length = ns.length) : (x, lkF ns c x) ∈ ns.zip c := by
  have h1 := List.idxOf_lt_length_iff.mpr h
  have e : (ns.zip c)[ns.idxOf x]? = some (x, lkF ns c x) := by
    rw [List.getElem?_zip_eq_some]
    refine ⟨idxOf_get h, ?_⟩
    unfold lkF
    rw [List.getD_eq_getElem?_getD, List.getElem?_eq_getElem (by omega)]
    rfl
  exact List.mem_of_getElem? e
theorem idxOf_nodup {ns : List Str} {i : Nat} {x : Str} (nd : ns.Nodup) (h : ns[i]? = some x) : ns.idxOf x = i := by
  have hm : x ∈ ns := List.mem_of_getElem? h
  have h1 := idxOf_get hm
  have hi := (List.getElem?_eq_some_iff.mp h).1
  exact ((List.getElem?_inj hi nd).mp (h.trans h1.symm)).symm
theorem lkF_at {ns c : List Str} {i : Nat} {x : Str} (nd : ns.Nodup) (h : ns[i]? = some x) : lkF ns c x = c.getD i "" := by
  unfold lkF
  rw [idxOf_nodup nd h]
theorem map_lkF {ns c : List Str} (nd : ns.Nodup) (hl : c.length = ns.length) : ns.map (lkF ns c) = c := by
  refine List.ext_getElem? fun i => ?_
  rw [List.getElem?_map]
  by_cases h : i < ns.length
  · rw [List.getElem?_eq_getElem h, Option.map_some, lkF_at nd (List.getElem?_eq_getElem h), List.getD_eq_getElem?_getD, List.getElem?_eq_getElem (by omega)]
    rfl
  · rw [List.getElem?_eq_none (by omega), List.getElem?_eq_none (by omega)]
    rfl
theorem valD_mem {α : Type} : ∀ {l : List (Str × α)} {x : Str} {v : α}, (l.map (·.1)).Nodup → (x, v) ∈ l → valD l x = some v
  | (k, u) :: l, x, v, nd, h => by
    rw [List.map_cons, List.nodup_cons] at nd
    unfold valD
    rcases List.mem_cons.mp h with e | h
    · cases e
      simp
    · have ne : ¬ k = x := fun e => nd.1 (List.mem_map.mpr ⟨(x, v), h, e.symm⟩)
      rw [List.find?_cons_of_neg (by simpa using ne)]
      exact valD_mem (l := l) nd.2 h
theorem valD_none {α : Type} {l : List (Str × α)} {x : Str} (h : x ∉ l.map (·.1)) : valD l x = none := by
  unfold valD
  rw [List.find?_eq_none.mpr fun p hp => ?_]
  · rfl
  · simp only [decide_eq_true_iff]
    exact fun e => h (List.mem_map.mpr ⟨p, hp, e⟩)
theorem putN_new {α : Type} {l : List (Str × α)} {x : Str} {v : α} (h : x ∉ l.map (·.1)) (hl : l.length < sizeLine) : putN l x v = .ok (l ++ [(x, v)]) := by
  unfold putN putD
  rw [if_pos hl, if_neg]
  intro z
  obtain ⟨p, hp, e⟩ := List.any_eq_true.mp z
  exact h (List.mem_map.mpr ⟨p, hp, by simpa using e⟩)
theorem valD_zip {ns c : List Str} {x : Str} (nd : ns.Nodup) (hl : c.length = ns.length) (h : x ∈ ns) : valD (ns.zip c) x = some (lkF ns c x) :=
  valD_mem (by rw [List.map_fst_zip (by omega)]; exact nd) (lkF_zip h hl)
theorem valD_rev {ns c : List Str} {x : Str} (nd : ns.Nodup) (hl : c.length = ns.length) (h : x ∈ ns) : valD (ns.zip c).reverse x = some (lkF ns c x) :=
  valD_mem (by rw [List.map_reverse, List.map_fst_zip (by omega)]; exact ((List.reverse_perm ns).nodup_iff).mpr nd) (List.mem_reverse.mpr (lkF_zip h hl))
/-! ## folds that add to a list -/
theorem foldR_cat {α β : Type} {f : List β → α → R (List β)} {y : α → List β} : ∀ (l : List α) (s : List β), s.length + (l.flatMap y).length ≤ sizeLine → (∀ s a, a ∈ l → s.length + (y a).length ≤ sizeLine → f s a = .ok (s ++ y a)) → foldR f l s = .ok (s ++ l.flatMap y)
  | [], s, _, _ => by simp [foldR]
  | a :: l, s, hz, h => by
    rw [List.flatMap_cons, List.length_append] at hz
    rw [foldR, h s a (by simp) (by omega), R.bind_ok, foldR_cat l _ (by rw [List.length_append]; omega) fun s a ha => h s a (List.mem_cons_of_mem _ ha), List.flatMap_cons, List.append_assoc]
theorem flatMap_one {α β : Type} (y : α → β) : ∀ l : List α, (l.flatMap fun a => [y a]) = l.map y
  | [] => rfl
  | a :: l => by rw [List.flatMap_cons, flatMap_one y l]; rfl
theorem foldR_push {α β : Type} {f : List β → α → R (List β)} {y : α → β} (l : List α) (s : List β) (hz : s.length + l.length ≤ sizeLine) (h : ∀ s a, a ∈ l → s.length < sizeLine → f s a = .ok (s ++ [y a])) : foldR f l s = .ok (s ++ l.map y) := by
  have z := foldR_cat (f := f) (y := fun a => [y a]) l s (by rw [flatMap_one, List.length_map]; exact hz) fun s a ha hs => h s a ha (by rw [List.length_singleton] at hs; omega)
  rw [z, flatMap_one]
/-! ## good nets -/
structure NG (net : List NE) : Prop where
  one : 1 ≤ net.length
  len : net.length ≤ 10
  nd : (net.map (·.1)).Nodup
  wn : ∀ e ∈ net, isW e.1 = true
  sz : ∀ e ∈ net, 2 ≤ e.2.1.length ∧ e.2.1.length ≤ 4
  vw : ∀ e ∈ net, ∀ v ∈ e.2.1, isW v = true
  vn : ∀ e ∈ net, e.2.1.Nodup
  el : ∀ (k : Nat) (e : NE), net[k]? = some e → ∀ x ∈ e.2.2.1, x ∈ (net.take k).map (·.1)
  e3 : ∀ e ∈ net, e.2.2.1.length ≤ 3 ∧ e.2.2.1.Nodup
  tl : ∀ e ∈ net, (e.2.2.2.2.length : Int) = choicesF net e.2.2.1
  tr : ∀ e ∈ net, ∀ row ∈ e.2.2.2.2, row.length = e.2.1.length ∧ (∀ x ∈ row, 0 ≤ x) ∧ row.sum = e.2.2.2.1
  mn : ∀ e ∈ net, 1 ≤ e.2.2.2.1 ∧ e.2.2.2.1 ≤ 1000000000
  ws : szF (net.map (·.2.1)) ≤ 4096
theorem find_nodup : ∀ {net : List NE}, (net.map (·.1)).Nodup → ∀ {e : NE}, e ∈ net → net.find? (fun x => decide (x.1 = e.1)) = some e
  | a :: net, nd, e, h => by
    rw [List.map_cons, List.nodup_cons] at nd
    rcases List.mem_cons.mp h with rfl | h
    · simp
    · have ne : ¬ a.1 = e.1 := fun z => nd.1 (List.mem_map.mpr ⟨e, h, z.symm⟩)
      rw [List.find?_cons_of_neg (by simpa using ne)]
      exact find_nodup nd.2 h
theorem valsOf_mem {net : List NE} (nd : (net.map (·.1)).Nodup) {e : NE} (h : e ∈ net) : valsOf net e.1 = e.2.1 := by
  unfold valsOf
  rw [find_nodup nd h]
theorem valsOf_take {net : List NE} {k : Nat} {x : Str} (h : x ∈ (net.take k).map (·.1)) : valsOf (net.take k) x = valsOf net x := by
  obtain ⟨e, _, _, hf⟩ := find_mem h
  unfold valsOf
  have e2 : net.find? (fun e => decide (e.1 = x)) = some e := by
    conv => lhs; rw [← List.take_append_drop k net]
    rw [List.find?_append, hf]
    rfl
  rw [hf, e2]
theorem sz_foldl : ∀ (vss : List (List Str)) (n : Nat), vss.foldl (fun n v => n * v.length) n = n * szF vss
  | [], n => by simp [szF]
  | v :: vss, n => by
    unfold szF
    rw [List.foldl_cons, List.foldl_cons, sz_foldl vss, sz_foldl vss]
    rw [Nat.one_mul, Nat.mul_assoc]
theorem szF_cons (v : List Str) (vss : List (List Str)) : szF (v :: vss) = v.length * szF vss := by
  show vss.foldl _ (1 * v.length) = _
  rw [sz_foldl, Nat.one_mul]
theorem szF_le4 : ∀ (vss : List (List Str)), (∀ v ∈ vss, v.length ≤ 4) → szF vss ≤ 4 ^ vss.length
  | [], _ => Nat.le_refl _
  | v :: vss, h => by
    rw [szF_cons, List.length_cons, Nat.pow_succ, Nat.mul_comm]
    exact Nat.mul_le_mul (szF_le4 vss fun v hv => h v (List.mem_cons_of_mem _ hv)) (h v (by simp))
theorem ways_sz (rows : List NRow) : ∀ w : Int, waysF w rows = w * (szF ((rows.map dueE).map (·.2.1)) : Int) := by
  induction rows with
  | nil => intro w; simp [waysF, szF]
  | cons r rs ih =>
    intro w
    show waysF (w * (r.2.1.length : Int)) rs = _
    rw [ih, List.map_cons, List.map_cons, szF_cons]
    show _ = w * ((r.2.1.length * _ : Nat) : Int)
    rw [Int.natCast_mul, Int.mul_assoc]
theorem tabOk_iff5 {t : List (List Int)} {ch sz : Int} : tabOk t ch sz = true ↔ (t.length : Int) = ch ∧ (∀ row ∈ t, (row.length : Int) = sz ∧ (∀ x ∈ row, 0 ≤ x) ∧ row.sum = (t.headD []).sum) ∧ 1 ≤ (t.headD []).sum ∧ (t.headD []).sum ≤ 1000000000 := by
  unfold tabOk rowOk
  simp only [Bool.and_eq_true, decide_eq_true_iff, List.all_eq_true]
  constructor
  · exact fun ⟨⟨⟨a, b⟩, c⟩, d⟩ => ⟨a, fun row hr => ⟨(b row hr).1.1, (b row hr).1.2, (b row hr).2⟩, c, d⟩
  · exact fun ⟨a, b, c, d⟩ => ⟨⟨⟨a, fun row hr => ⟨⟨(b row hr).1, (b row hr).2.1⟩, (b row hr).2.2⟩⟩, c⟩, d⟩
theorem choicesF_take {net : List NE} {k : Nat} {es : List Str} (h : ∀ x ∈ es, x ∈ (net.take k).map (·.1)) : choicesF (net.take k) es = choicesF net es := by
  have go : ∀ (es : List Str) (c : Int), (∀ x ∈ es, x ∈ (net.take k).map (·.1)) → es.foldl (fun c e => c * ((valsOf (net.take k) e).length : Int)) c = es.foldl (fun c e => c * ((valsOf net e).length : Int)) c := by
    intro es
    induction es with
    | nil => intro c _; rfl
    | cons x es ih =>
      intro c h
      rw [List.foldl_cons, List.foldl_cons, valsOf_take (h x (by simp))]
      exact ih _ fun y hy => h y (List.mem_cons_of_mem _ hy)
  exact go es 1 h
theorem NG.of {rows : List NRow} (h : GoodL rows) (h1 : 1 ≤ rows.length) (hl : rows.length ≤ 10) : NG (rows.map dueE) := by
  have gr : ∀ e ∈ rows.map dueE, ∃ (k : Nat) (r : NRow), rows[k]? = some r ∧ e = dueE r ∧ GoodR ((rows.take k).map dueE) (waysF 1 (rows.take k)) r := fun e he => by
    obtain ⟨r, hr, rfl⟩ := List.mem_map.mp he
    obtain ⟨k, hk⟩ := List.getElem?_of_mem hr
    exact ⟨k, r, hk, rfl, (h k r hk).1⟩
  have el : ∀ (k : Nat) (e : NE), (rows.map dueE)[k]? = some e → ∀ x ∈ e.2.2.1, x ∈ ((rows.map dueE).take k).map (·.1) := fun k e hk x hx => by
    rw [List.getElem?_map] at hk
    cases hr : rows[k]? with
    | none => rw [hr] at hk; cases hk
    | some r =>
      rw [hr] at hk
      cases hk
      have := List.all_eq_true.mp (h k r hr).1.em x hx
      rw [← List.map_take]
      simpa using this
  have nd : ((rows.map dueE).map (·.1)).Nodup := by
    have go : ∀ k, k ≤ rows.length → (((rows.take k).map dueE).map (·.1)).Nodup := by
      intro k
      induction k with
      | zero => intro _; simp
      | succ k ih =>
        intro hk
        have hk' : k < rows.length := by omega
        rw [List.take_succ, List.getElem?_eq_getElem hk', Option.toList_some, List.map_append, List.map_append]
        refine List.nodup_append.mpr ⟨ih (by omega), by simp, fun a ha b hb e => ?_⟩
        have e2 : b = rows[k].1 := by simpa [dueE] using hb
        rw [e, e2] at ha
        exact (h k rows[k] (List.getElem?_eq_getElem hk')).1.new ha
    have z := go rows.length (Nat.le_refl _)
    rw [List.take_length] at z
    exact z
  refine ⟨by rw [List.length_map]; exact h1, by rw [List.length_map]; exact hl, nd, fun e he => ?_, fun e he => ?_, fun e he v hv => ?_, fun e he => ?_, el, fun e he => ?_, fun e he => ?_, fun e he row hr => ?_, fun e he => ?_, ?_⟩
  · obtain ⟨k, r, hk, rfl, g⟩ := gr e he; exact g.nm
  · obtain ⟨k, r, hk, rfl, g⟩ := gr e he; exact g.vl
  · obtain ⟨k, r, hk, rfl, g⟩ := gr e he; exact List.all_eq_true.mp g.vw v hv
  · obtain ⟨k, r, hk, rfl, g⟩ := gr e he; exact g.vn
  · obtain ⟨k, r, hk, rfl, g⟩ := gr e he; exact ⟨g.el, g.en⟩
  · obtain ⟨k, r, hk, rfl, g⟩ := gr e he
    have z := (tabOk_iff5.mp g.tb).1
    have hx := el k (dueE r) (by rw [List.getElem?_map, hk]; rfl)
    rw [List.map_take] at z
    rw [choicesF_take (es := r.2.2.1) hx] at z
    exact z
  · obtain ⟨k, r, hk, rfl, g⟩ := gr e he
    obtain ⟨a, b, c⟩ := (tabOk_iff5.mp g.tb).2.1 row hr
    exact ⟨by exact_mod_cast a, b, c⟩
  · obtain ⟨k, r, hk, rfl, g⟩ := gr e he
    exact (tabOk_iff5.mp g.tb).2.2
  · have hk : rows.length - 1 < rows.length := by omega
    have g := (h _ _ (List.getElem?_eq_getElem hk)).1
    have z : waysF 1 rows ≤ 4096 := by
      have e : rows = rows.take (rows.length - 1) ++ [rows[rows.length - 1]] := by
        conv => lhs; rw [← List.take_append_drop (rows.length - 1) rows]
        rw [List.drop_eq_getElem_cons hk, show rows.length - 1 + 1 = rows.length by omega, List.drop_length]
      conv => lhs; rw [e]
      rw [waysF_snoc]
      exact g.ws
    rw [ways_sz, Int.one_mul] at z
    exact_mod_cast z
section
variable {net : List NE} (g : NG net)
include g
theorem NG.vlen {x : Str} (h : x ∈ net.map (·.1)) : 2 ≤ (valsOf net x).length ∧ (valsOf net x).length ≤ 4 := by
  obtain ⟨e, he, rfl⟩ := List.mem_map.mp h
  rw [valsOf_mem g.nd he]
  exact g.sz e he
theorem NG.vnd {x : Str} (h : x ∈ net.map (·.1)) : (valsOf net x).Nodup := by
  obtain ⟨e, he, rfl⟩ := List.mem_map.mp h
  rw [valsOf_mem g.nd he]
  exact g.vn e he
theorem NG.elm {e : NE} (he : e ∈ net) {x : Str} (hx : x ∈ e.2.2.1) : x ∈ net.map (·.1) := by
  obtain ⟨k, hk⟩ := List.getElem?_of_mem he
  have z := g.el k e hk x hx
  rw [List.map_take] at z
  exact List.mem_of_mem_take z
theorem NG.at {k : Nat} {e : NE} (h : net[k]? = some e) : (net.map (·.1)).idxOf e.1 = k := idxOf_nodup g.nd (by rw [List.getElem?_map, h]; rfl)
theorem NG.eat {k : Nat} {e : NE} (h : net[k]? = some e) {x : Str} (hx : x ∈ e.2.2.1) : (net.map (·.1)).idxOf x < k := by
  have z := g.el k e h x hx
  obtain ⟨e', he', rfl⟩ := List.mem_map.mp z
  obtain ⟨j, hj⟩ := List.getElem?_of_mem he'
  have hj' : j < k := by
    have := (List.getElem?_eq_some_iff.mp hj).1
    rw [List.length_take] at this
    omega
  rw [List.getElem?_take_of_lt hj'] at hj
  rw [g.at hj]
  exact hj'
theorem NG.vmap : (net.map (·.1)).map (valsOf net) = net.map (·.2.1) := by
  rw [List.map_map]
  exact List.map_congr_left fun e he => valsOf_mem g.nd he
end
/-! ## parts -/
def rowF (net : List NE) (lk : Str → Str) (es : List Str) : Nat := es.foldl (fun r x => r * (valsOf net x).length + (valsOf net x).idxOf (lk x)) 0
def partF (net : List NE) (lk : Str → Str) (e : NE) : Int := (e.2.2.2.2.getD (rowF net lk e.2.2.1) []).getD (e.2.1.idxOf (lk e.1)) 0
theorem row_lt_go {net : List NE} {lk : Str → Str} : ∀ (es : List Str) (r c : Nat), (∀ x ∈ es, lk x ∈ valsOf net x) → r < c →
    es.foldl (fun r x => r * (valsOf net x).length + (valsOf net x).idxOf (lk x)) r < es.foldl (fun c x => c * (valsOf net x).length) c
  | [], r, c, _, h => h
  | x :: es, r, c, h, hr => by
    rw [List.foldl_cons, List.foldl_cons]
    refine row_lt_go es _ _ (fun y hy => h y (List.mem_cons_of_mem _ hy)) ?_
    have h1 := List.idxOf_lt_length_iff.mpr (h x (by simp))
    have h2 : (r + 1) * (valsOf net x).length ≤ c * (valsOf net x).length := Nat.mul_le_mul_right _ hr
    rw [Nat.succ_mul] at h2
    omega
theorem choices_nat (net : List NE) (es : List Str) : choicesF net es = ((es.foldl (fun c x => c * (valsOf net x).length) 1 : Nat) : Int) := by
  have go : ∀ (es : List Str) (c : Nat), es.foldl (fun c e => c * ((valsOf net e).length : Int)) (c : Int) = ((es.foldl (fun c x => c * (valsOf net x).length) c : Nat) : Int) := by
    intro es
    induction es with
    | nil => intro c; rfl
    | cons x es ih => intro c; rw [List.foldl_cons, List.foldl_cons, ← ih]; congr 1
  exact go es 1
theorem rowF_lt {net : List NE} (g : NG net) {e : NE} (he : e ∈ net) {lk : Str → Str} (hl : ∀ x ∈ e.2.2.1, lk x ∈ valsOf net x) : rowF net lk e.2.2.1 < e.2.2.2.2.length := by
  have z := row_lt_go e.2.2.1 0 1 hl (by omega)
  have t := g.tl e he
  rw [choices_nat] at t
  unfold rowF
  omega
theorem partF_get {net : List NE} (g : NG net) {e : NE} (he : e ∈ net) {lk : Str → Str} (hl : ∀ x ∈ e.2.2.1, lk x ∈ valsOf net x) (h : lk e.1 ∈ e.2.1) :
    ∃ row, e.2.2.2.2[rowF net lk e.2.2.1]? = some row ∧ row ∈ e.2.2.2.2 ∧ row.length = e.2.1.length ∧ row[e.2.1.idxOf (lk e.1)]? = some (partF net lk e) ∧ 0 ≤ partF net lk e ∧ partF net lk e ≤ 1000000000 := by
  have h1 := rowF_lt g he hl
  refine ⟨_, List.getElem?_eq_getElem h1, List.getElem_mem h1, ?_⟩
  obtain ⟨t1, t2, t3⟩ := g.tr e he _ (List.getElem_mem h1)
  have h2 := List.idxOf_lt_length_iff.mpr h
  have e1 : partF net lk e = (e.2.2.2.2[rowF net lk e.2.2.1])[e.2.1.idxOf (lk e.1)]'(by omega) := by
    unfold partF
    rw [List.getD_eq_getElem?_getD, List.getD_eq_getElem?_getD, List.getElem?_eq_getElem h1, Option.getD_some, List.getElem?_eq_getElem (by omega), Option.getD_some]
  have hm : partF net lk e ∈ e.2.2.2.2[rowF net lk e.2.2.1] := by rw [e1]; exact List.getElem_mem _
  refine ⟨t1, by rw [List.getElem?_eq_getElem (by omega), e1], t2 _ hm, ?_⟩
  have m1 := (g.mn e he).2
  have le : ∀ (l : List Int), (∀ x ∈ l, 0 ≤ x) → ∀ y ∈ l, y ≤ l.sum := by
    intro l
    induction l with
    | nil => intro _ y hy; cases hy
    | cons a l ih =>
      intro hn y hy
      rw [List.sum_cons]
      have a0 := hn a (by simp)
      have s0 := sum_nn (zs := l) fun z hz => hn z (List.mem_cons_of_mem _ hz)
      rcases List.mem_cons.mp hy with rfl | hy
      · omega
      · have := ih (fun z hz => hn z (List.mem_cons_of_mem _ hz)) y hy
        omega
  have := le _ t2 _ hm
  omega
theorem rowF_congr {net : List NE} {lk lk' : Str → Str} {es : List Str} (h : ∀ x ∈ es, lk x = lk' x) : rowF net lk es = rowF net lk' es := by
  unfold rowF
  have go : ∀ (es : List Str) (r : Nat), (∀ x ∈ es, lk x = lk' x) → es.foldl (fun r x => r * (valsOf net x).length + (valsOf net x).idxOf (lk x)) r = es.foldl (fun r x => r * (valsOf net x).length + (valsOf net x).idxOf (lk' x)) r := by
    intro es
    induction es with
    | nil => intro r _; rfl
    | cons x es ih => intro r h; rw [List.foldl_cons, List.foldl_cons, h x (by simp)]; exact ih _ fun y hy => h y (List.mem_cons_of_mem _ hy)
  exact go es 0 h
theorem partF_congr {net : List NE} {lk lk' : Str → Str} {e : NE} (h : ∀ x ∈ e.2.2.1, lk x = lk' x) (h1 : lk e.1 = lk' e.1) : partF net lk e = partF net lk' e := by
  unfold partF
  rw [rowF_congr h, h1]
/-! ## the law's own net -/
theorem T_law_net_is : T_law_net = T_law_due := rfl
theorem GoodL.lnet {rows : List NRow} (h : GoodL rows) (hl : rows.length ≤ 10) : T_law_net rows = .ok (rows.map dueE) := by rw [T_law_net_is]; exact h.due hl
theorem for_lvalues (nm : Str) : ∀ net : List NE, forR (T_law_values_b1 nm) net () = .ok (match net.find? (fun e => decide (e.1 = nm)) with | some e => .rt e.2.1 | none => .nx ())
  | [] => rfl
  | e :: net => by
    rw [forR, T_law_values_b1]
    by_cases h : e.1 = nm
    · simp [h]
    · simp only [h, decide_false, R.bind_ok, Bool.false_eq_true, if_false, TF.thn_nx]
      rw [for_lvalues nm net, List.find?_cons_of_neg (by simpa using h)]
theorem T_law_values_eq (net : List NE) (nm : Str) : T_law_values net nm = .ok (valsOf net nm) := by
  unfold T_law_values valsOf
  rw [R.bind_ok, for_lvalues]
  cases net.find? (fun e => decide (e.1 = nm)) <;> rfl
theorem mulR_len (x : Int) {n : Nat} (h : n ≤ 1000000000) : mulR x (n : Int) = .ok (x * (n : Int)) := mulR_ok (mulOk_right (by omega) (by omega))
theorem size_go {net : List NE} : ∀ (ns : List Str) (n : Nat), (∀ x ∈ ns, (valsOf net x).length ≤ 4) → foldR (T_law_size_b1 net) ns (n : Int) = .ok ((n * szF (ns.map (valsOf net)) : Nat) : Int)
  | [], n, _ => by simp [foldR, szF]
  | x :: ns, n, h => by
    rw [foldR, T_law_size_b1, T_law_values_eq]
    simp only [R.bind_ok]
    have := h x (by simp)
    rw [mulR_len _ (by omega), R.bind_ok, R.bind_ok, ← Int.natCast_mul, size_go ns _ fun y hy => h y (List.mem_cons_of_mem _ hy), List.map_cons, szF_cons, Nat.mul_assoc]
theorem T_law_size_eq {net : List NE} {ns : List Str} (h : ∀ x ∈ ns, (valsOf net x).length ≤ 4) : T_law_size net ns = .ok (szF (ns.map (valsOf net)) : Int) := by
  unfold T_law_size
  rw [R.bind_ok, R.bind_ok]
  have z := size_go ns 1 h
  rw [Nat.one_mul] at z
  rw [show (1 : Int) = ((1 : Nat) : Int) from rfl, z]
  rfl
theorem choice_go {net : List NE} : ∀ (rs : List Str) (k : Nat) (d : List (Str × Str)), (∀ x ∈ rs, 1 ≤ (valsOf net x).length ∧ (valsOf net x).length ≤ 4) → rs.Nodup → (∀ x ∈ rs, x ∉ d.map (·.1)) → d.length + rs.length ≤ sizeLine →
    ∃ k' : Int, foldR (T_law_choice_b1 net) rs ((k : Int), d) = .ok (k', d ++ (rs.reverse.zip (digR (rs.map (valsOf net)) k)).reverse)
  | [], k, d, _, _, _, _ => ⟨k, by simp [foldR]⟩
  | x :: rs, k, d, h, nd, hd, hz => by
    obtain ⟨n1, n2⟩ := h x (by simp)
    rw [List.nodup_cons] at nd
    rw [List.length_cons] at hz
    have hm : k % (valsOf net x).length < (valsOf net x).length := Nat.mod_lt _ (by omega)
    rw [foldR, T_law_choice_b1, T_law_values_eq]
    simp only [R.bind_ok]
    rw [modR_ok (by omega), R.bind_ok, ← Int.natCast_emod, atR_nat (List.getElem?_eq_getElem hm), R.bind_ok, putN_new (hd x (by simp)) (by omega), R.bind_ok, divR_ok (divP_small (by omega) (by omega)), R.bind_ok, R.bind_ok, ← Int.natCast_ediv]
    obtain ⟨k', z⟩ := choice_go rs (k / (valsOf net x).length) (d ++ [(x, (valsOf net x)[k % (valsOf net x).length])]) (fun y hy => h y (List.mem_cons_of_mem _ hy)) nd.2 (fun y hy => by
      rw [List.map_append, List.mem_append, not_or]
      refine ⟨hd y (List.mem_cons_of_mem _ hy), ?_⟩
      simp only [List.map_cons, List.map_nil, List.mem_singleton]
      exact fun e => nd.1 (e ▸ hy)) (by rw [List.length_append, List.length_singleton]; omega)
    refine ⟨k', ?_⟩
    rw [z, List.map_cons, digR, List.reverse_cons, List.zip_append (by rw [digR_len, List.length_reverse, List.length_map]), List.reverse_append, List.append_assoc]
    have e : (valsOf net x).getD (k % (valsOf net x).length) "" = (valsOf net x)[k % (valsOf net x).length] := by rw [List.getD_eq_getElem?_getD, List.getElem?_eq_getElem hm]; rfl
    rw [e]
    rfl
theorem T_law_choice_eq {net : List NE} {ns : List Str} {k : Nat} (h : ∀ x ∈ ns, 1 ≤ (valsOf net x).length ∧ (valsOf net x).length ≤ 4) (nd : ns.Nodup) (hz : ns.length ≤ sizeLine) : T_law_choice net ns (k : Int) = .ok (ns.zip (digs (ns.map (valsOf net)) k)).reverse := by
  unfold T_law_choice
  obtain ⟨k', z⟩ := choice_go ns.reverse k [] (fun x hx => h x (List.mem_reverse.mp hx)) ((List.reverse_perm ns).nodup_iff.mpr nd) (fun _ _ z => nomatch z) (by simpa using hz)
  simp only [R.bind_ok]
  rw [z, R.bind_ok, List.reverse_reverse, List.nil_append]
  unfold digs
  rw [List.map_reverse]
theorem dget_of {α : Type} {d : List (Str × α)} {x : Str} {v : α} (h : valD d x = some v) : dgetR d x = .ok v := by unfold dgetR; rw [h]; rfl
theorem idxR_of {l : List Str} {x : Str} (h : x ∈ l) : idxR l x = .ok (l.idxOf x : Int) := if_pos h
theorem cast_row {net : List NE} {lk : Str → Str} (es : List Str) (r : Nat) : es.foldl (fun (r : Int) x => r * ((valsOf net x).length : Int) + ((valsOf net x).idxOf (lk x) : Int)) (r : Int) = ((es.foldl (fun r x => r * (valsOf net x).length + (valsOf net x).idxOf (lk x)) r : Nat) : Int) := by
  induction es generalizing r with
  | nil => rfl
  | cons x es ih =>
    rw [List.foldl_cons, List.foldl_cons, ← ih]
    congr 1
theorem lpart_go {net : List NE} {d : List (Str × Str)} {lk : Str → Str} (es : List Str) (hs : ∀ x ∈ es, (valsOf net x).length ≤ 4) (hd : ∀ x ∈ es, valD d x = some (lk x)) (hl : ∀ x ∈ es, lk x ∈ valsOf net x) :
    foldR (T_law_part_b1 net d) es 0 = .ok (rowF net lk es : Int) := by
  rw [foldR_eq (g := fun r x => r * ((valsOf net x).length : Int) + ((valsOf net x).idxOf (lk x) : Int)) es 0 fun s x hx => ?_]
  · have z := cast_row (net := net) (lk := lk) es 0
    rw [show ((0 : Nat) : Int) = 0 from rfl] at z
    rw [z]
    rfl
  · unfold T_law_part_b1
    have := hs x hx
    rw [T_law_values_eq]
    simp only [R.bind_ok]
    rw [mulR_len _ (by omega), R.bind_ok, dget_of (hd x hx), R.bind_ok, idxR_of (hl x hx)]
    rfl
theorem T_law_part_eq {net : List NE} (g : NG net) {e : NE} (he : e ∈ net) {d : List (Str × Str)} {lk : Str → Str} (hd : ∀ x, x = e.1 ∨ x ∈ e.2.2.1 → valD d x = some (lk x) ∧ lk x ∈ valsOf net x) : T_law_part net e d = .ok (partF net lk e) := by
  have hn : lk e.1 ∈ e.2.1 := by rw [← valsOf_mem g.nd he]; exact (hd _ (.inl rfl)).2
  obtain ⟨row, r1, r2, r3, r4, _⟩ := partF_get g he (lk := lk) (fun x hx => (hd x (.inr hx)).2) hn
  unfold T_law_part
  simp only [R.bind_ok]
  rw [lpart_go e.2.2.1 (fun x hx => (g.vlen (g.elm he hx)).2) (fun x hx => (hd x (.inr hx)).1) (fun x hx => (hd x (.inr hx)).2), R.bind_ok, atR_nat r1, R.bind_ok, dget_of (hd _ (.inl rfl)).1, R.bind_ok, idxR_of hn, R.bind_ok, atR_nat r4]
/-- a choice's values are its names' own -/
theorem lk_in {net : List NE} {ns c : List Str} (hc : c ∈ cart (ns.map (valsOf net))) {x : Str} (hx : x ∈ ns) : lkF ns c x ∈ valsOf net x := by
  obtain ⟨h1, h2⟩ := cart_mem hc
  rw [List.length_map] at h1
  have z := lkF_zip hx h1
  have z2 : (valsOf net x, lkF ns c x) ∈ (ns.map (valsOf net)).zip c := by
    rw [List.zip_map_left]
    exact List.mem_map.mpr ⟨_, z, rfl⟩
  exact h2 _ z2
theorem digs_cart {vss : List (List Str)} {k : Nat} (h : k < szF vss) : digs vss k ∈ cart vss := by
  rw [cart_eq]
  exact List.mem_map.mpr ⟨k, List.mem_range.mpr h, rfl⟩
abbrev nsF (net : List NE) : List Str := net.map (·.1)
abbrev vsF (net : List NE) : List (List Str) := net.map (·.2.1)
def partsF (net : List NE) (lk : Str → Str) (es : List NE) : Int := es.foldl (fun p e => p * partF net lk e) 1
theorem rng_range (n : Nat) : rng 0 (n : Int) = (List.range n).map fun (k : Nat) => (k : Int) := by
  unfold rng
  rw [Int.sub_zero, Int.toNat_natCast]
  exact List.map_congr_left fun k _ => Int.zero_add _
theorem lk_cart {net : List NE} (g : NG net) {c : List Str} (hc : c ∈ cart (vsF net)) {x : Str} (hx : x ∈ nsF net) : lkF (nsF net) c x ∈ valsOf net x := lk_in (by rw [g.vmap]; exact hc) hx
theorem parts_go {net : List NE} (g : NG net) {d : List (Str × Str)} {lk : Str → Str} (hd : ∀ x ∈ nsF net, valD d x = some (lk x) ∧ lk x ∈ valsOf net x) (es : List NE) (hs : ∀ e ∈ es, e ∈ net) : foldR (T_law_all_b1 net d) es 1 = .ok (partsF net lk es) := by
  refine foldR_eq (g := fun p e => p * partF net lk e) es 1 fun s e he => ?_
  have he := hs e he
  have hn : e.1 ∈ nsF net := List.mem_map.mpr ⟨e, he, rfl⟩
  obtain ⟨row, _, _, _, _, p0, p1⟩ := partF_get g he (lk := lk) (fun x hx => (hd x (g.elm he hx)).2) (by rw [← valsOf_mem g.nd he]; exact (hd _ hn).2)
  unfold T_law_all_b1
  rw [R.bind_ok, T_law_part_eq g he (lk := lk) fun x hx => hd x (hx.elim (fun e => e ▸ hn) fun hx => g.elm he hx), R.bind_ok, mulR_ok (mulOk_right (by omega) (by omega))]
  rfl
theorem T_law_all_eq {net : List NE} (g : NG net) : T_law_all net = .ok ((List.range (szF (vsF net))).map fun k => (((nsF net).zip (digs (vsF net) k)).reverse, partsF net (lkF (nsF net) (digs (vsF net) k)) net)) := by
  have ws : szF (vsF net) ≤ 4096 := g.ws
  have ws' := g.ws
  have hl := g.len
  unfold T_law_all
  rw [R.bind_ok, cmpR_map (f := fun e : NE => e.1) fun _ _ => rfl, R.bind_ok, fitN_ok (by rw [List.length_map, sizeLine_eq]; omega), R.bind_ok, R.bind_ok, T_law_size_eq fun x hx => (g.vlen hx).2, R.bind_ok, g.vmap, rngR1_ok (by omega) (by omega), R.bind_ok, rng_range]
  have z := foldR_push (f := T_law_all_b2 net (nsF net)) (y := fun k : Int => (((nsF net).zip (digs (vsF net) k.toNat)).reverse, partsF net (lkF (nsF net) (digs (vsF net) k.toNat)) net)) ((List.range (szF (vsF net))).map fun (k : Nat) => (k : Int)) [] (by simp only [List.length_nil, List.length_map, List.length_range, sizeLine_eq]; omega) fun s a ha hs => by
    obtain ⟨k, hk, rfl⟩ := List.mem_map.mp ha
    have hk := List.mem_range.mp hk
    have hc := digs_cart hk
    unfold T_law_all_b2
    rw [T_law_choice_eq (fun x hx => ⟨by have := (g.vlen hx).1; omega, (g.vlen hx).2⟩) g.nd (by rw [List.length_map, sizeLine_eq]; omega), g.vmap, R.bind_ok, R.bind_ok, R.bind_ok,
      parts_go g (lk := lkF (nsF net) (digs (vsF net) k)) (fun x hx => ⟨valD_rev g.nd (by rw [digs_len, List.length_map, List.length_map]) hx, lk_cart g hc hx⟩) net fun _ h => h, R.bind_ok, appR_ok hs]
    rfl
  rw [z, R.bind_ok, List.nil_append, List.map_map]
  rfl
/-! ## the program's ways -/
theorem netAt {net : List NE} (g : NG net) {x : Str} (h : x ∈ nsF net) : ∃ e, net[(nsF net).idxOf x]? = some e ∧ e.2.1 = valsOf net x := by
  have h1 : (nsF net).idxOf x < net.length := by
    have := List.idxOf_lt_length_iff.mpr h
    rwa [List.length_map] at this
  refine ⟨net[(nsF net).idxOf x], List.getElem?_eq_getElem h1, ?_⟩
  have e1 := idxOf_get h
  rw [List.getElem?_map, List.getElem?_eq_getElem h1] at e1
  have e2 : (net[(nsF net).idxOf x]).1 = x := Option.some.inj e1
  rw [← valsOf_mem g.nd (List.getElem_mem h1), e2]
theorem rowby_go {net : List NE} (g : NG net) {way : List Str} (es : List Str) (hs : ∀ x ∈ es, x ∈ nsF net ∧ (nsF net).idxOf x < way.length ∧ lkF (nsF net) way x ∈ valsOf net x) :
    foldR (T_row_by_b1 net way (nsF net)) es 0 = .ok (rowF net (lkF (nsF net) way) es : Int) := by
  rw [foldR_eq (g := fun r x => r * ((valsOf net x).length : Int) + ((valsOf net x).idxOf (lkF (nsF net) way x) : Int)) es 0 fun s x hx => ?_]
  · have z := cast_row (net := net) (lk := lkF (nsF net) way) es 0
    rw [show ((0 : Nat) : Int) = 0 from rfl] at z
    rw [z]
    rfl
  · obtain ⟨h1, h2, h3⟩ := hs x hx
    obtain ⟨e, he, hv⟩ := netAt g h1
    have := (g.vlen h1).2
    have ew : way[(nsF net).idxOf x]? = some (lkF (nsF net) way x) := by
      unfold lkF
      rw [List.getD_eq_getElem?_getD, List.getElem?_eq_getElem h2]
      rfl
    unfold T_row_by_b1
    simp only [R.bind_ok]
    rw [idxR_of h1, R.bind_ok, atR_nat he, R.bind_ok, R.bind_ok, hv, mulR_len _ (by omega), R.bind_ok, atR_nat ew, R.bind_ok, idxR_of h3]
    rfl
theorem T_row_by_eq {net : List NE} (g : NG net) {e : NE} (he : e ∈ net) {way : List Str} (hs : ∀ x ∈ e.2.2.1, (nsF net).idxOf x < way.length ∧ lkF (nsF net) way x ∈ valsOf net x) :
    ∃ row, e.2.2.2.2[rowF net (lkF (nsF net) way) e.2.2.1]? = some row ∧ T_row_by net e way = .ok row := by
  have h1 := rowF_lt g he (lk := lkF (nsF net) way) fun x hx => (hs x hx).2
  refine ⟨_, List.getElem?_eq_getElem h1, ?_⟩
  have hl := g.len
  unfold T_row_by
  rw [T_names_of_eq (by rw [sizeLine_eq]; omega)]
  simp only [R.bind_ok]
  rw [rowby_go g e.2.2.1 fun x hx => ⟨g.elm he hx, hs x hx⟩, R.bind_ok, atR_nat (List.getElem?_eq_getElem h1)]
def fitB (s : List (Str × Str)) (x v : Str) : Bool := decide ((valD s x).getD v = v)
def fit2 (s m : List (Str × Str)) (x v : Str) : Bool := fitB s x v && fitB m x v
def fitW (s m : List (Str × Str)) (ns c : List Str) : Bool := (ns.zip c).all fun p => fit2 s m p.1 p.2
theorem fitW_snoc {s m : List (Str × Str)} {ns c : List Str} {x v : Str} (h : ns.length = c.length) : fitW s m (ns ++ [x]) (c ++ [v]) = (fitW s m ns c && fit2 s m x v) := by
  unfold fitW
  rw [List.zip_append h, List.all_append]
  simp
theorem flatMap_congr' {α β : Type} {f f' : α → List β} : ∀ {l : List α}, (∀ a ∈ l, f a = f' a) → l.flatMap f = l.flatMap f'
  | [], _ => rfl
  | a :: l, h => by rw [List.flatMap_cons, List.flatMap_cons, h a (by simp), flatMap_congr' fun b hb => h b (List.mem_cons_of_mem _ hb)]
theorem filter_map_flat {α β : Type} (p : α → Bool) (f : α → β) : ∀ l : List α, (l.filter p).map f = l.flatMap fun a => if p a = true then [f a] else []
  | [] => rfl
  | a :: l => by
    rw [List.flatMap_cons, ← filter_map_flat p f l]
    by_cases h : p a = true
    · rw [List.filter_cons_of_pos h, if_pos h]; rfl
    · rw [List.filter_cons_of_neg h, if_neg h]; rfl
theorem filter_flat {α β : Type} (p : α → Bool) (f : α → List β) : ∀ l : List α, (l.filter p).flatMap f = l.flatMap fun a => if p a = true then f a else []
  | [] => rfl
  | a :: l => by
    rw [List.flatMap_cons, ← filter_flat p f l]
    by_cases h : p a = true
    · rw [List.filter_cons_of_pos h, if_pos h]; rfl
    · rw [List.filter_cons_of_neg h, if_neg h]; rfl
theorem zip_idx {v : List Str} {row : List Int} (nd : v.Nodup) (h : row.length = v.length) : v.zip row = v.map fun x => (x, row.getD (v.idxOf x) 0) := by
  refine List.ext_getElem? fun i => ?_
  rw [List.getElem?_map]
  by_cases hi : i < v.length
  · have e : v.idxOf v[i] = i := idxOf_nodup nd (List.getElem?_eq_getElem hi)
    rw [List.getElem?_eq_getElem (by rw [List.length_zip]; omega), List.getElem?_eq_getElem hi, Option.map_some, e, List.getElem_zip, List.getD_eq_getElem?_getD, List.getElem?_eq_getElem (by omega)]
    rfl
  · rw [List.getElem?_eq_none (by rw [List.length_zip]; omega), List.getElem?_eq_none (by omega)]
    rfl
theorem szF_append (a b : List (List Str)) : szF (a ++ b) = szF a * szF b := by
  unfold szF
  rw [List.foldl_append, sz_foldl b]
  rfl
theorem szF_pos : ∀ {vss : List (List Str)}, (∀ v ∈ vss, 1 ≤ v.length) → 1 ≤ szF vss
  | [], _ => Nat.le_refl _
  | v :: vss, h => by
    rw [szF_cons]
    exact Nat.mul_pos (h v (by simp)) (szF_pos fun v hv => h v (List.mem_cons_of_mem _ hv))
theorem NG.wsTake {net : List NE} (g : NG net) (j : Nat) : szF (vsF (net.take j)) ≤ 4096 := by
  have z := g.ws
  have e : net.map (·.2.1) = vsF (net.take j) ++ vsF (net.drop j) := by
    show _ = (net.take j).map _ ++ (net.drop j).map _
    rw [← List.map_append, List.take_append_drop]
  rw [e, szF_append] at z
  have p : 1 ≤ szF (vsF (net.drop j)) := szF_pos fun v hv => by
    obtain ⟨e, he, rfl⟩ := List.mem_map.mp hv
    have := g.sz e (List.mem_of_mem_drop he)
    omega
  exact Nat.le_trans (Nat.le_mul_of_pos_right _ p) z
/-- the ways by the first j names -/
def toldF (net : List NE) (s m : List (Str × Str)) (j : Nat) : List (List Str × Int) := ((cart (vsF (net.take j))).filter (fitW s m (nsF (net.take j)))).map fun c => (c, partsF net (lkF (nsF net) c) (net.take j))
theorem toldF_len {net : List NE} (g : NG net) (s m : List (Str × Str)) (j : Nat) : (toldF net s m j).length ≤ 4096 := by
  unfold toldF
  rw [List.length_map]
  exact Nat.le_trans (List.length_filter_le _ _) (by rw [cart_length]; exact g.wsTake j)
/-- a longer way -/
def stepF (s m : List (Str × Str)) (x : Str) (w : List Str × Int) (p : Str × Int) : List (List Str × Int) := if fit2 s m x p.1 = true then [(w.1 ++ [p.1], w.2 * p.2)] else []
theorem walked_step {net : List NE} (g : NG net) {s m : List (Str × Str)} {j : Nat} {e : NE} (hj : net[j]? = some e) : T_walked_by_b3 net s m (toldF net s m j) e = .ok (toldF net s m (j + 1)) := by
  have he : e ∈ net := List.mem_of_getElem? hj
  have hjl : j < net.length := (List.getElem?_eq_some_iff.mp hj).1
  have hl := g.len
  have et : net.take (j + 1) = net.take j ++ [e] := by rw [List.take_succ, hj]; rfl
  have en : nsF (net.take (j + 1)) = nsF (net.take j) ++ [e.1] := by show List.map _ _ = _; rw [et, List.map_append]; rfl
  have ev : vsF (net.take (j + 1)) = vsF (net.take j) ++ [e.2.1] := by show List.map _ _ = _; rw [et, List.map_append]; rfl
  have nl : (nsF (net.take j)).length = j := by rw [List.length_map, List.length_take]; omega
  -- facts of a choice
  have cl : ∀ c ∈ cart (vsF (net.take j)), c.length = j := fun c hc => by
    have := (cart_mem hc).1
    rw [List.length_map, List.length_take] at this
    omega
  have nt : ∀ x ∈ nsF (net.take j), (nsF net).idxOf x = (nsF (net.take j)).idxOf x ∧ x ∈ nsF net := fun x hx => by
    have e1 : nsF net = nsF (net.take j) ++ nsF (net.drop j) := by
      show _ = (net.take j).map _ ++ (net.drop j).map _
      rw [← List.map_append, List.take_append_drop]
    rw [e1, List.idxOf_append, if_pos hx]
    exact ⟨rfl, List.mem_append_left _ hx⟩
  have nv : (nsF (net.take j)).map (valsOf net) = vsF (net.take j) := by
    rw [List.map_map]
    exact List.map_congr_left fun a ha => valsOf_mem g.nd (List.mem_of_mem_take ha)
  have lkc : ∀ c ∈ cart (vsF (net.take j)), ∀ x ∈ nsF (net.take j), (nsF net).idxOf x < c.length ∧ lkF (nsF net) c x ∈ valsOf net x := fun c hc x hx => by
    have z := lk_in (net := net) (ns := nsF (net.take j)) (by rw [nv]; exact hc) hx
    have h1 := (nt x hx).1
    refine ⟨?_, ?_⟩
    · have q := List.idxOf_lt_length_iff.mpr hx
      rw [nl] at q
      rw [h1, cl c hc]
      exact q
    · unfold lkF at z ⊢
      rw [h1]
      exact z
  have row : ∀ c ∈ cart (vsF (net.take j)), ∃ row, e.2.2.2.2[rowF net (lkF (nsF net) c) e.2.2.1]? = some row ∧ T_row_by net e c = .ok row := fun c hc => T_row_by_eq g he fun x hx => lkc c hc x (g.el j e hj x hx)
  have hrow : ∀ c ∈ cart (vsF (net.take j)), ∀ r, e.2.2.2.2[rowF net (lkF (nsF net) c) e.2.2.1]? = some r → r.length = e.2.1.length ∧ ∀ x ∈ r, 0 ≤ x ∧ x ≤ 1000000000 := fun c hc r hr => by
    have hm := List.mem_of_getElem? hr
    obtain ⟨t1, t2, t3⟩ := g.tr e he r hm
    refine ⟨t1, fun x hx => ⟨t2 x hx, ?_⟩⟩
    have le : ∀ (l : List Int), (∀ x ∈ l, 0 ≤ x) → ∀ y ∈ l, y ≤ l.sum := by
      intro l
      induction l with
      | nil => intro _ y hy; cases hy
      | cons a l ih =>
        intro hn y hy
        rw [List.sum_cons]
        have a0 := hn a (by simp)
        have s0 := sum_nn (zs := l) fun z hz => hn z (List.mem_cons_of_mem _ hz)
        rcases List.mem_cons.mp hy with rfl | hy
        · omega
        · have := ih (fun z hz => hn z (List.mem_cons_of_mem _ hz)) y hy
          omega
    have m1 := (g.mn e he).2
    have := le r t2 x hx
    omega
  let rowOf := fun (c : List Str) => e.2.2.2.2.getD (rowF net (lkF (nsF net) c) e.2.2.1) []
  have erow : ∀ c ∈ cart (vsF (net.take j)), T_row_by net e c = .ok (rowOf c) ∧ (rowOf c).length = e.2.1.length ∧ ∀ x ∈ rowOf c, 0 ≤ x ∧ x ≤ 1000000000 := fun c hc => by
    obtain ⟨r, h1, h2⟩ := row c hc
    have e1 : rowOf c = r := by
      show List.getD _ _ _ = r
      rw [List.getD_eq_getElem?_getD, h1]
      rfl
    rw [e1]
    exact ⟨h2, hrow c hc r h1⟩
  -- the new list
  have key : (toldF net s m j).flatMap (fun w => (e.2.1.zip (rowOf w.1)).flatMap (stepF s m e.1 w)) = toldF net s m (j + 1) := by
    unfold toldF
    rw [ev, cart_snoc, en, List.flatMap_map, filter_flat, filter_map_flat, List.flatMap_assoc]
    refine flatMap_congr' fun c hc => ?_
    obtain ⟨_, r1, _⟩ := erow c hc
    have hcl := cl c hc
    rw [List.flatMap_map]
    have fx : ∀ v ∈ e.2.1, (if fitW s m (nsF (net.take j) ++ [e.1]) (c ++ [v]) = true then [(c ++ [v], partsF net (lkF (nsF net) (c ++ [v])) (net.take (j + 1)))] else [])
        = if fitW s m (nsF (net.take j)) c = true then stepF s m e.1 (c, partsF net (lkF (nsF net) c) (net.take j)) (v, (rowOf c).getD (e.2.1.idxOf v) 0) else [] := fun v hv => by
      rw [fitW_snoc (by rw [nl, hcl])]
      have lke : ∀ x ∈ nsF (net.take j), lkF (nsF net) (c ++ [v]) x = lkF (nsF net) c x := fun x hx => by
        unfold lkF
        rw [List.getD_eq_getElem?_getD, List.getD_eq_getElem?_getD, List.getElem?_append_left (lkc c hc x hx).1]
      have lkn : lkF (nsF net) (c ++ [v]) e.1 = v := by
        unfold lkF
        rw [g.at hj, List.getD_eq_getElem?_getD, List.getElem?_append_right (by omega), hcl, Nat.sub_self]
        rfl
      have ep : partsF net (lkF (nsF net) (c ++ [v])) (net.take (j + 1)) = partsF net (lkF (nsF net) c) (net.take j) * (rowOf c).getD (e.2.1.idxOf v) 0 := by
        unfold partsF
        rw [et, List.foldl_append]
        show _ * partF net (lkF (nsF net) (c ++ [v])) e = _
        have e1 : partF net (lkF (nsF net) (c ++ [v])) e = (rowOf c).getD (e.2.1.idxOf v) 0 := by
          unfold partF
          rw [lkn, rowF_congr (lk' := lkF (nsF net) c) fun x hx => lke x (g.el j e hj x hx)]
        rw [e1]
        congr 1
        have go : ∀ (es : List NE) (p : Int), (∀ a ∈ es, partF net (lkF (nsF net) (c ++ [v])) a = partF net (lkF (nsF net) c) a) → es.foldl (fun p a => p * partF net (lkF (nsF net) (c ++ [v])) a) p = es.foldl (fun p a => p * partF net (lkF (nsF net) c) a) p := by
          intro es
          induction es with
          | nil => intro p _; rfl
          | cons a es ih => intro p h; rw [List.foldl_cons, List.foldl_cons, h a (by simp)]; exact ih _ fun b hb => h b (List.mem_cons_of_mem _ hb)
        refine go _ 1 fun a ha => ?_
        obtain ⟨i, hi⟩ := List.getElem?_of_mem ha
        have hij : i < j := by
          have := (List.getElem?_eq_some_iff.mp hi).1
          rw [List.length_take] at this
          omega
        rw [List.getElem?_take_of_lt hij] at hi
        refine partF_congr (fun x hx => lke x ?_) (lke _ (List.mem_map.mpr ⟨a, ha, rfl⟩))
        have := g.el i a hi x hx
        rw [List.map_take] at this
        show x ∈ (net.take j).map _
        rw [List.map_take]
        exact (List.take_subset_take_left _ (by omega)) this
      rw [ep]
      unfold stepF
      by_cases h1 : fitW s m (nsF (net.take j)) c = true
      · rw [h1, Bool.true_and, if_pos rfl]
      · rw [if_neg h1, if_neg (by rw [Bool.and_eq_true]; exact fun z => h1 z.1)]
    rw [flatMap_congr' fx, zip_idx (g.vn e he) r1, List.flatMap_map]
    by_cases h1 : fitW s m (nsF (net.take j)) c = true
    · simp only [h1, if_true]
    · simp only [h1]
      simp
  have tm : ∀ w ∈ toldF net s m j, w.1 ∈ cart (vsF (net.take j)) := fun w hw => by
    obtain ⟨c, hc, rfl⟩ := List.mem_map.mp hw
    exact (List.mem_filter.mp hc).1
  unfold T_walked_by_b3
  simp only [R.bind_ok]
  have z := foldR_cat (f := T_walked_by_b2 net s m e e.1) (y := fun w => (e.2.1.zip (rowOf w.1)).flatMap (stepF s m e.1 w)) (toldF net s m j) [] (by
    rw [key, List.length_nil, sizeLine_eq]
    have := toldF_len g s m (j + 1)
    omega) fun acc w hw hz => by
      obtain ⟨r1, r2, r3⟩ := erow w.1 (tm w hw)
      have wl := cl w.1 (tm w hw)
      unfold T_walked_by_b2
      simp only [R.bind_ok]
      rw [r1, R.bind_ok, R.bind_ok]
      rw [foldR_cat (f := T_walked_by_b1 s m e.1 w) (y := stepF s m e.1 w) (e.2.1.zip (rowOf w.1)) acc hz fun acc p hp hz => ?_]
      · rfl
      · unfold T_walked_by_b1
        have hp2 := r3 p.2 (List.of_mem_zip (a := p.1) (b := p.2) hp).2
        by_cases hf : fit2 s m e.1 p.1 = true
        · have e1 : ((decide ((valD s e.1).getD p.1 = p.1)) && (decide ((valD m e.1).getD p.1 = p.1))) = true := hf
          have e2 : stepF s m e.1 w p = [(w.1 ++ [p.1], w.2 * p.2)] := if_pos hf
          rw [e2, List.length_singleton] at hz
          rw [e2]
          simp only [e1, R.bind_ok, if_true]
          rw [catR_ok (by rw [List.length_singleton, sizeLine_eq]; omega), R.bind_ok, mulR_ok (mulOk_right (by omega) (by omega)), R.bind_ok, R.bind_ok, R.bind_ok, R.bind_ok, appR_ok (by omega)]
          rfl
        · have e1 : ((decide ((valD s e.1).getD p.1 = p.1)) && (decide ((valD m e.1).getD p.1 = p.1))) = false := by
            have := Bool.not_eq_true _ ▸ hf
            exact this
          have e2 : stepF s m e.1 w p = [] := if_neg hf
          rw [e2]
          simp only [e1, R.bind_ok, Bool.false_eq_true, if_false, List.append_nil]
  rw [z, R.bind_ok, key]
  rfl
theorem T_walked_by_eq {net : List NE} (g : NG net) (s m : List (Str × Str)) : T_walked_by net s m = .ok (((cart (vsF net)).filter (fitW s m (nsF net))).map fun c => (c, partsF net (lkF (nsF net) c) net)) := by
  have go : ∀ (n j : Nat), j + n = net.length → foldR (T_walked_by_b3 net s m) (net.drop j) (toldF net s m j) = .ok (toldF net s m net.length) := by
    intro n
    induction n with
    | zero => intro j hj; rw [show j = net.length by omega, List.drop_length]; rfl
    | succ n ih =>
      intro j hj
      have h : j < net.length := by omega
      rw [List.drop_eq_getElem_cons h, foldR, walked_step g (List.getElem?_eq_getElem h), R.bind_ok]
      exact ih (j + 1) (by omega)
  unfold T_walked_by
  have z := go net.length 0 (by omega)
  rw [List.drop_zero] at z
  rw [R.bind_ok, R.bind_ok]
  have e0 : toldF net s m 0 = [([], 1)] := rfl
  rw [← e0, z]
  unfold toldF
  rw [List.take_length]
  rfl
theorem fitW_nil (ns c : List Str) : fitW [] [] ns c = true := by
  unfold fitW
  rw [List.all_eq_true]
  intro p _
  simp [fit2, fitB, valD]
theorem T_ways_eq {net : List NE} (g : NG net) : T_ways net = .ok ((cart (vsF net)).map fun c => (c, partsF net (lkF (nsF net) c) net)) := by
  unfold T_ways
  rw [T_walked_by_eq g, List.filter_eq_self.mpr fun c _ => fitW_nil _ c]
end OD
set_option Elab.async false
set_option linter.all false
set_option maxRecDepth 100000
set_option maxHeartbeats 4000000
set_option synthInstance.maxSize 1000
set_option synthInstance.maxHeartbeats 400000
namespace OD
open PySem PySem.Spec PyProof.Rows L2 L2.VL
def topS (i : Nat) : Stmt := PySem.Challenge.pw_oddsnet_k20_ways_in_counting_order.main.body.getD i (.Pass ⟨0, 0, 0, 0⟩)
abbrev s_names_of : Stmt := topS 1
abbrev s_row_by : Stmt := topS 3
abbrev s_walked_by : Stmt := topS 4
abbrev s_ways : Stmt := topS 5
abbrev s_law_cell : Stmt := topS 7
abbrev s_law_words : Stmt := topS 8
abbrev s_law_cuts : Stmt := topS 9
abbrev s_law_shape : Stmt := topS 10
abbrev s_law_rows : Stmt := topS 11
abbrev s_law_alike : Stmt := topS 12
abbrev s_law_net : Stmt := topS 13
abbrev s_law_values : Stmt := topS 14
abbrev s_law_size : Stmt := topS 15
abbrev s_law_choice : Stmt := topS 16
abbrev s_law_part : Stmt := topS 17
abbrev s_law_all : Stmt := topS 18
abbrev s_law : Stmt := topS 19
/-- what the top has written -/
structure Tx (K : PySem.W.Frag) (mg : Str → Option Value) where
  f_names_of : Addr
  fd_names_of : FuncData
  F_names_of : Fun K "names_of" "names_of" s_names_of f_names_of fd_names_of
  g_names_of : mg "names_of" = some (.ref f_names_of)
  b_names_of : Binds K fd_names_of ["net"] []
  f_row_by : Addr
  fd_row_by : FuncData
  F_row_by : Fun K "row_by" "row_by" s_row_by f_row_by fd_row_by
  g_row_by : mg "row_by" = some (.ref f_row_by)
  b_row_by : Binds K fd_row_by ["net", "entry", "way"] []
  f_walked_by : Addr
  fd_walked_by : FuncData
  F_walked_by : Fun K "walked_by" "walked_by" s_walked_by f_walked_by fd_walked_by
  g_walked_by : mg "walked_by" = some (.ref f_walked_by)
  b_walked_by : Binds K fd_walked_by ["net", "setting", "more"] []
  f_ways : Addr
  fd_ways : FuncData
  F_ways : Fun K "ways" "ways" s_ways f_ways fd_ways
  g_ways : mg "ways" = some (.ref f_ways)
  b_ways : Binds K fd_ways ["net"] []
  f_law_cell : Addr
  fd_law_cell : FuncData
  F_law_cell : Fun K "_law_cell" "_law_cell" s_law_cell f_law_cell fd_law_cell
  g_law_cell : mg "_law_cell" = some (.ref f_law_cell)
  b_law_cell : Binds K fd_law_cell ["_law_script", "_law_k"] []
  f_law_words : Addr
  fd_law_words : FuncData
  F_law_words : Fun K "_law_words" "_law_words" s_law_words f_law_words fd_law_words
  g_law_words : mg "_law_words" = some (.ref f_law_words)
  b_law_words : Binds K fd_law_words ["_law_cell_here", "_law_many"] []
  f_law_cuts : Addr
  fd_law_cuts : FuncData
  F_law_cuts : Fun K "_law_cuts" "_law_cuts" s_law_cuts f_law_cuts fd_law_cuts
  g_law_cuts : mg "_law_cuts" = some (.ref f_law_cuts)
  b_law_cuts : Binds K fd_law_cuts ["_law_cell_here", "_law_size_here", "_law_many"] []
  f_law_shape : Addr
  fd_law_shape : FuncData
  F_law_shape : Fun K "_law_shape" "_law_shape" s_law_shape f_law_shape fd_law_shape
  g_law_shape : mg "_law_shape" = some (.ref f_law_shape)
  b_law_shape : Binds K fd_law_shape ["_law_script", "_law_at", "_law_k", "_law_names", "_law_room"] []
  f_law_rows : Addr
  fd_law_rows : FuncData
  F_law_rows : Fun K "_law_rows" "_law_rows" s_law_rows f_law_rows fd_law_rows
  g_law_rows : mg "_law_rows" = some (.ref f_law_rows)
  b_law_rows : Binds K fd_law_rows ["_law_script", "_law_at", "_law_most", "_law_top"] []
  f_law_alike : Addr
  fd_law_alike : FuncData
  F_law_alike : Fun K "_law_alike" "_law_alike" s_law_alike f_law_alike fd_law_alike
  g_law_alike : mg "_law_alike" = some (.ref f_law_alike)
  b_law_alike : Binds K fd_law_alike ["_law_found", "_law_due"] []
  f_law_net : Addr
  fd_law_net : FuncData
  F_law_net : Fun K "_law_net" "_law_net" s_law_net f_law_net fd_law_net
  g_law_net : mg "_law_net" = some (.ref f_law_net)
  b_law_net : Binds K fd_law_net ["_law_rows_here"] []
  f_law_values : Addr
  fd_law_values : FuncData
  F_law_values : Fun K "_law_values" "_law_values" s_law_values f_law_values fd_law_values
  g_law_values : mg "_law_values" = some (.ref f_law_values)
  b_law_values : Binds K fd_law_values ["_law_net_here", "_law_name"] []
  f_law_size : Addr
  fd_law_size : FuncData
  F_law_size : Fun K "_law_size" "_law_size" s_law_size f_law_size fd_law_size
  g_law_size : mg "_law_size" = some (.ref f_law_size)
  b_law_size : Binds K fd_law_size ["_law_net_here", "_law_names"] []
  f_law_choice : Addr
  fd_law_choice : FuncData
  F_law_choice : Fun K "_law_choice" "_law_choice" s_law_choice f_law_choice fd_law_choice
  g_law_choice : mg "_law_choice" = some (.ref f_law_choice)
  b_law_choice : Binds K fd_law_choice ["_law_net_here", "_law_names", "_law_k"] []
  f_law_part : Addr
  fd_law_part : FuncData
  F_law_part : Fun K "_law_part" "_law_part" s_law_part f_law_part fd_law_part
  g_law_part : mg "_law_part" = some (.ref f_law_part)
  b_law_part : Binds K fd_law_part ["_law_net_here", "_law_entry", "_law_choice_here"] []
  f_law_all : Addr
  fd_law_all : FuncData
  F_law_all : Fun K "_law_all" "_law_all" s_law_all f_law_all fd_law_all
  g_law_all : mg "_law_all" = some (.ref f_law_all)
  b_law_all : Binds K fd_law_all ["_law_net_here"] []
  f_law : Addr
  fd_law : FuncData
  F_law : Fun K "law" "law" s_law f_law fd_law
  g_law : mg "law" = some (.ref f_law)
  b_law : Binds K fd_law ["_law_script"] []
  n_bool : mg "bool" = none
  n_int : mg "int" = none
  n_isinstance : mg "isinstance" = none
  n_len : mg "len" = none
  n_list : mg "list" = none
  n_max : mg "max" = none
  n_min : mg "min" = none
  n_range : mg "range" = none
  n_reversed : mg "reversed" = none
  n_str : mg "str" = none
  n_sum : mg "sum" = none
  n_tuple : mg "tuple" = none
  n_zip : mg "zip" = none
section
variable {P : Program} {w : World} {K : PySem.W.Frag} {mg : Str → Option Value} {base : Heap}
theorem sc_names_of : FnScope ["net", "entry"] ["net"] (defScope s_names_of) := ⟨rfl, rfl, rfl, by decide +kernel, rfl, by decide +kernel, by decide +kernel⟩
theorem okM_names_of (T : Tx K mg) : FnOk P w K mg base (L2.CX P w) 1 T.f_names_of T.fd_names_of ["net"] (spF K mg [.im] .im (M_names_of)) := by
  refine okV (ms := [.im]) (G' := [.im, .un]) (g := G_names_of) T.F_names_of sc_names_of rfl rfl fun cdv A outer s H E hr => ?_
  exact (vs_one (vs_ret (ve_tuple T.n_tuple (ve_comp (G1 := [.im, .im]) (own := [("entry", 1)]) rfl sc_names_of.nd (vi_tup (m := .im) (ve_im (i := 0))) (show BlkOk ["net", "entry"] (defScope s_names_of) _ [("entry", 1)] from ⟨rfl, by decide +kernel, by decide +kernel, by decide +kernel, by decide +kernel⟩) (fun _ _ _ _ _ => (vg_name (i := 1) sc_names_of.nd)) (fun _ _ _ _ _ => vts_nil) (fun _ _ _ _ _ => (ve_item (ve_im (i := 1)) ve_int))))))
theorem sc_row_by : FnScope ["net", "entry", "way", "names", "row", "elder", "at", "values"] ["net", "entry", "way"] (defScope s_row_by) := ⟨rfl, rfl, rfl, by decide +kernel, rfl, by decide +kernel, by decide +kernel⟩
theorem okM_row_by (T : Tx K mg) : FnOk P w K mg base (L2.CX P w) 2 T.f_row_by T.fd_row_by ["net", "entry", "way"] (spF K mg [.im, .im, .im] .im (M_row_by)) := by
  refine okV (ms := [.im, .im, .im]) (G' := [.im, .im, .im, .im, .im, .un, .un, .un]) (g := G_row_by) T.F_row_by sc_row_by rfl rfl fun cdv A outer s H E hr => ?_
  have tk : Takes (cxOf (L2.CX P w) P w K mg base ["net", "entry", "way", "names", "row", "elder", "at", "values"] "row_by" (defScope s_row_by) T.f_row_by cdv A outer s H E) (fun cls d _ H => E cls d H) := takes_of rfl rfl rfl rfl
  have hp := passes_of (X := (cxOf (L2.CX P w) P w K mg base ["net", "entry", "way", "names", "row", "elder", "at", "values"] "row_by" (defScope s_row_by) T.f_row_by cdv A outer s H E)) rfl
  exact (vs_cons (vs_set (i := 3) (ve_call (rm := .im) (okM_names_of T) (hr.mono (by decide)) T.g_names_of T.F_names_of.kp T.b_names_of tk (va_cons (ve_im (i := 0)) va_nil)) sc_row_by.nd) (vs_cons (vs_set (i := 4) ve_int sc_row_by.nd) (vs_cons (vs_for hp rfl (vi_tup (m := .im) (ve_item (ve_im (i := 1)) ve_int)) (vg_name (i := 5) sc_row_by.nd) (vs_cons (vs_set (i := 6) (ve_idxT (ve_im (i := 3)) (ve_im (i := 5))) sc_row_by.nd) (vs_cons (vs_set (i := 7) (ve_item (ve_item (ve_im (i := 0)) (ve_im (i := 6))) ve_int) sc_row_by.nd) (vs_one (vs_set (i := 4) (ve_bin op_addF d_add (ve_bin op_mulOk d_mul (ve_im (i := 4)) (ve_blt call_len d_len T.n_len PySem.boot_len (va_cons (ve_im (i := 7)) va_nil))) (ve_idxT (ve_im (i := 7)) (ve_item (ve_im (i := 2)) (ve_im (i := 6))))) sc_row_by.nd)))) (by rfl)) (vs_one (vs_ret (ve_item (ve_item (ve_im (i := 1)) ve_int) (ve_im (i := 4))))))))
theorem sc_walked_by : FnScope ["net", "setting", "more", "told", "entry", "name", "longer", "way", "parts", "value", "one"] ["net", "setting", "more"] (defScope s_walked_by) := ⟨rfl, rfl, rfl, by decide +kernel, rfl, by decide +kernel, by decide +kernel⟩
theorem okM_walked_by (T : Tx K mg) : FnOk P w K mg base (L2.CX P w) 3 T.f_walked_by T.fd_walked_by ["net", "setting", "more"] (spF K mg [.im, .ar, .ar] .fr (M_walked_by)) := by
  refine okVr (ms := [.im, .ar, .ar]) (G' := [.im, .ar, .ar, .ow, .un, .un, .un, .un, .un, .un, .un]) (g := G_walked_by) T.F_walked_by sc_walked_by rfl rfl fun cdv A outer s H E hr => ?_
  have tk : Takes (cxOf (L2.CX P w) P w K mg base ["net", "setting", "more", "told", "entry", "name", "longer", "way", "parts", "value", "one"] "walked_by" (defScope s_walked_by) T.f_walked_by cdv A outer s H E) (fun cls d _ H => E cls d H) := takes_of rfl rfl rfl rfl
  have hp := passes_of (X := (cxOf (L2.CX P w) P w K mg base ["net", "setting", "more", "told", "entry", "name", "longer", "way", "parts", "value", "one"] "walked_by" (defScope s_walked_by) T.f_walked_by cdv A outer s H E)) rfl
  exact (vs_cons (vs_setOw (i := 3) (ve_lst (va_cons (ve_tup (va_cons (ve_tup va_nil) (va_cons ve_int va_nil))) va_nil)) sc_walked_by.nd) (vs_cons (vs_for hp rfl (vi_tup (m := .im) (ve_im (i := 0))) (vg_name (i := 4) sc_walked_by.nd) (vs_cons (vs_set (i := 5) (ve_item (ve_im (i := 4)) ve_int) sc_walked_by.nd) (vs_cons (vs_setOw (i := 6) (ve_lst va_nil) sc_walked_by.nd) (vs_freeze 3 rfl (vs_cons (vs_for hp rfl (vi_list (m := .im) (ve_im (i := 3))) (vg_tup rfl (pn_cons sc_walked_by.nd (pn_cons sc_walked_by.nd pn_nil))) (vs_one (vs_forP (i := 9) (j := 10) hp rfl sc_walked_by.nd (vi_zipT (m1 := .im) (m2 := .im) T.n_zip (ve_item (ve_im (i := 4)) ve_int) (ve_call (rm := .im) (okM_row_by T) (hr.mono (by decide)) T.g_row_by T.F_row_by.kp T.b_row_by tk (va_cons (ve_im (i := 0)) (va_cons (ve_im (i := 4)) (va_cons (ve_im (i := 7)) va_nil))))) (vs_one (vs_if (G' := [.im, .ar, .ar, .im, .im, .im, .ow, .im, .im, .im, .im]) (PW.pt (vw_and (vt_cmp (op_eqA hr) d_eq (ve_dget2 (hu_of hr) (ve_ar (i := 1)) (ve_im (i := 5)) (ve_im (i := 9)) ⟨rfl, rfl, rfl, rfl⟩) (ve_im (i := 9))) (vw_and1 (vt_cmp (op_eqA hr) d_eq (ve_dget2 (hu_of hr) (ve_ar (i := 2)) (ve_im (i := 5)) (ve_im (i := 9)) ⟨rfl, rfl, rfl, rfl⟩) (ve_im (i := 9)))))) (vs_one (vs_own (i := 6) PySem.F.slot_list_append rfl mt_append mu_app (va_cons (ve_tup (va_cons (ve_catT (ve_im (i := 7)) (ve_tup (va_cons (ve_im (i := 9)) va_nil))) (va_cons (ve_bin op_mulOk d_mul (ve_im (i := 8)) (ve_im (i := 10))) va_nil))) va_nil))) vs_nil)) (by rfl))) (by rfl)) (vs_one (vs_move (i := 3) (j := 6) sc_walked_by.nd)))))) (by rfl)) (vs_one (vs_retOw (i := 3)))))
theorem sc_ways : FnScope ["net"] ["net"] (defScope s_ways) := ⟨rfl, rfl, rfl, by decide +kernel, rfl, by decide +kernel, by decide +kernel⟩
theorem okM_ways (T : Tx K mg) : FnOk P w K mg base (L2.CX P w) 4 T.f_ways T.fd_ways ["net"] (spF K mg [.im] .fr (M_ways)) := by
  refine okVr (ms := [.im]) (G' := [.im]) (g := G_ways) T.F_ways sc_ways rfl rfl fun cdv A outer s H E hr => ?_
  have tk : Takes (cxOf (L2.CX P w) P w K mg base ["net"] "ways" (defScope s_ways) T.f_ways cdv A outer s H E) (fun cls d _ H => E cls d H) := takes_of rfl rfl rfl rfl
  exact (vs_one (vs_retFr (ve_call (rm := .fr) (okM_walked_by T) (hr.mono (by decide)) T.g_walked_by T.F_walked_by.kp T.b_walked_by tk (va_cons (ve_im (i := 0)) (va_cons ve_dnew (va_cons ve_dnew va_nil))))))
theorem sc_law_cell : FnScope ["_law_script", "_law_k", "_law_spare"] ["_law_script", "_law_k"] (defScope s_law_cell) := ⟨rfl, rfl, rfl, by decide +kernel, rfl, by decide +kernel, by decide +kernel⟩
theorem okM_law_cell (T : Tx K mg) : FnOk P w K mg base (L2.CX P w) 1 T.f_law_cell T.fd_law_cell ["_law_script", "_law_k"] (spF K mg [.ar, .im] .im (M_law_cell)) := by
  refine okV (ms := [.ar, .im]) (G' := [.ar, .im, .im]) (g := G_law_cell) T.F_law_cell sc_law_cell rfl rfl fun cdv A outer s H E hr => ?_
  exact (vs_cons (vs_if (G' := [.ar, .im, .un]) (vt_cmp op_lt d_lt (ve_im (i := 1)) (ve_blt call_len d_len T.n_len PySem.boot_len (va_cons (ve_ar (i := 0)) va_nil))) (vs_one (vs_ret (ve_flat (ve_item (ve_ar (i := 0)) (ve_im (i := 1)))))) vs_nil) (vs_cons (vs_set (i := 2) (ve_bin op_addF d_add ve_int (ve_bin op_mulOk d_mul (ve_bin op_mulOk d_mul ve_int (ve_im (i := 1))) (ve_im (i := 1)))) sc_law_cell.nd) (vs_cons (vs_if (G' := [.ar, .im, .im]) (vt_cmp op_gt d_gt (ve_blt call_len d_len T.n_len PySem.boot_len (va_cons (ve_ar (i := 0)) va_nil)) ve_int) (vs_one (vs_set (i := 2) (ve_bin op_addF d_add (ve_im (i := 2)) (ve_bin op_mulOk d_mul (ve_bin op_mod d_mod (ve_item (ve_ar (i := 0)) ve_int) ve_int) (ve_bin op_addF d_add (ve_im (i := 1)) ve_int))) sc_law_cell.nd)) vs_nil) (vs_one (vs_ret (ve_im (i := 2)))))))
theorem sc_law_words : FnScope ["_law_cell_here", "_law_many", "_law_letters", "_law_k", "_law_size_here", "_law_stem", "_law_at"] ["_law_cell_here", "_law_many"] (defScope s_law_words) := ⟨rfl, rfl, rfl, by decide +kernel, rfl, by decide +kernel, by decide +kernel⟩
theorem okM_law_words (T : Tx K mg) : FnOk P w K mg base (L2.CX P w) 1 T.f_law_words T.fd_law_words ["_law_cell_here", "_law_many"] (spF K mg [.im, .im] .fr (M_law_words)) := by
  refine okVr (ms := [.im, .im]) (G' := [.im, .im, .im, .un, .im, .im, .im]) (g := G_law_words) T.F_law_words sc_law_words rfl rfl fun cdv A outer s H E hr => ?_
  exact (vs_cons (vs_set (i := 2) ve_str sc_law_words.nd) (vs_cons (vs_if (G' := [.im, .im, .im, .un, .un, .un, .un]) (vt_cmp (op_eqA hr) d_eq (ve_bin op_mod d_mod (ve_im (i := 0)) ve_int) ve_int) (vs_one (vs_retFr (ve_comp (G1 := [.im, .im, .im, .im, .un, .un, .un]) (own := [("_law_k", 3)]) rfl sc_law_words.nd (vi_range1 T.n_range (va_cons (ve_im (i := 1)) va_nil)) (show BlkOk ["_law_cell_here", "_law_many", "_law_letters", "_law_k", "_law_size_here", "_law_stem", "_law_at"] (defScope s_law_words) _ [("_law_k", 3)] from ⟨rfl, by decide +kernel, by decide +kernel, by decide +kernel, by decide +kernel⟩) (fun _ _ _ _ _ => (vg_name (i := 3) sc_law_words.nd)) (fun _ _ _ _ _ => vts_nil) (fun _ _ _ _ _ => (ve_bin op_mulS d_mulS (ve_item (ve_im (i := 2)) (ve_bin op_mod d_mod (ve_bin op_fdivP d_fdiv (ve_im (i := 0)) ve_int) ve_int)) (ve_bin op_addF d_add (ve_im (i := 3)) ve_int)))))) vs_nil) (vs_cons (vs_set (i := 4) (ve_bin op_mod d_mod (ve_bin op_fdivP d_fdiv (ve_im (i := 0)) ve_int) ve_int) sc_law_words.nd) (vs_cons (vs_set (i := 5) (ve_join ve_str (ve_comp (G1 := [.im, .im, .im, .im, .im, .un, .un]) (own := [("_law_k", 3)]) rfl sc_law_words.nd (vi_range1 T.n_range (va_cons (ve_im (i := 4)) va_nil)) (show BlkOk ["_law_cell_here", "_law_many", "_law_letters", "_law_k", "_law_size_here", "_law_stem", "_law_at"] (defScope s_law_words) _ [("_law_k", 3)] from ⟨rfl, by decide +kernel, by decide +kernel, by decide +kernel, by decide +kernel⟩) (fun _ _ _ _ _ => (vg_name (i := 3) sc_law_words.nd)) (fun _ _ _ _ _ => vts_nil) (fun _ _ _ _ _ => (ve_item (ve_im (i := 2)) (ve_bin op_mod d_mod (ve_bin op_addF d_add (ve_bin op_fdivP d_fdiv (ve_im (i := 0)) ve_int) (ve_bin op_mulOk d_mul (ve_bin op_addF d_add (ve_im (i := 3)) ve_int) (ve_bin op_addF d_add (ve_im (i := 3)) ve_int))) ve_int))))) sc_law_words.nd) (vs_cons (vs_set (i := 6) (ve_bin op_mod d_mod (ve_bin op_fdivP d_fdiv (ve_im (i := 0)) ve_int) (ve_bin op_addF d_add (ve_im (i := 4)) ve_int)) sc_law_words.nd) (vs_one (vs_retFr (ve_comp (G1 := [.im, .im, .im, .im, .im, .im, .im]) (own := [("_law_k", 3)]) rfl sc_law_words.nd (vi_range1 T.n_range (va_cons (ve_im (i := 1)) va_nil)) (show BlkOk ["_law_cell_here", "_law_many", "_law_letters", "_law_k", "_law_size_here", "_law_stem", "_law_at"] (defScope s_law_words) _ [("_law_k", 3)] from ⟨rfl, by decide +kernel, by decide +kernel, by decide +kernel, by decide +kernel⟩) (fun _ _ _ _ _ => (vg_name (i := 3) sc_law_words.nd)) (fun _ _ _ _ _ => vts_nil) (fun _ _ _ _ _ => (ve_bin op_addF d_add (ve_bin op_addF d_add (ve_slS (ve_im (i := 5)) vo_none (vo_some (ve_im (i := 6)))) (ve_item (ve_im (i := 2)) (ve_bin op_mod d_mod (ve_bin op_addF d_add (ve_bin op_fdivP d_fdiv (ve_im (i := 0)) ve_int) (ve_bin op_mulOk d_mul ve_int (ve_im (i := 3)))) ve_int))) (ve_slS (ve_im (i := 5)) (vo_some (ve_im (i := 6))) vo_none)))))))))))
theorem sc_law_cuts : FnScope ["_law_cell_here", "_law_size_here", "_law_many", "_law_numbers", "_law_left", "_law_k", "_law_one"] ["_law_cell_here", "_law_size_here", "_law_many"] (defScope s_law_cuts) := ⟨rfl, rfl, rfl, by decide +kernel, rfl, by decide +kernel, by decide +kernel⟩
theorem okM_law_cuts (T : Tx K mg) : FnOk P w K mg base (L2.CX P w) 1 T.f_law_cuts T.fd_law_cuts ["_law_cell_here", "_law_size_here", "_law_many"] (spF K mg [.im, .im, .im] .fr (M_law_cuts)) := by
  refine okVr (ms := [.im, .im, .im]) (G' := [.im, .im, .im, .ow, .im, .un, .un]) (g := G_law_cuts) T.F_law_cuts sc_law_cuts rfl rfl fun cdv A outer s H E hr => ?_
  have hp := passes_of (X := (cxOf (L2.CX P w) P w K mg base ["_law_cell_here", "_law_size_here", "_law_many", "_law_numbers", "_law_left", "_law_k", "_law_one"] "_law_cuts" (defScope s_law_cuts) T.f_law_cuts cdv A outer s H E)) rfl
  exact (vs_cons (vs_setOw (i := 3) (ve_lst va_nil) sc_law_cuts.nd) (vs_cons (vs_set (i := 4) (ve_im (i := 2)) sc_law_cuts.nd) (vs_cons (vs_for hp rfl (vi_range1 T.n_range (va_cons (ve_bin op_sub d_sub (ve_im (i := 1)) ve_int) va_nil)) (vg_name (i := 5) sc_law_cuts.nd) (vs_cons (vs_set (i := 6) (ve_bin op_mod d_mod (ve_bin op_mod d_mod (ve_bin op_mulOk d_mul (ve_im (i := 0)) (ve_bin op_addF d_add ve_int (ve_bin op_mulOk d_mul (ve_bin op_mulOk d_mul ve_int (ve_im (i := 5))) (ve_im (i := 5))))) ve_int) (ve_bin op_addF d_add (ve_im (i := 4)) ve_int)) sc_law_cuts.nd) (vs_cons (vs_if (G' := [.im, .im, .im, .ow, .im, .im, .im]) (vt_cmp (op_eqA hr) d_eq (ve_bin op_mod d_mod (ve_im (i := 0)) ve_int) ve_int) (vs_one (vs_set (i := 6) (ve_item (ve_lst (va_cons ve_int (va_cons (ve_im (i := 4)) va_nil))) (ve_bin op_mod d_mod (ve_bin op_fdivP d_fdiv (ve_im (i := 0)) (ve_bin op_addF d_add ve_int (ve_im (i := 5)))) ve_int)) sc_law_cuts.nd)) vs_nil) (vs_cons (vs_own (i := 3) PySem.F.slot_list_append rfl mt_append mu_app (va_cons (ve_im (i := 6)) va_nil)) (vs_one (vs_set (i := 4) (ve_bin op_sub d_sub (ve_im (i := 4)) (ve_im (i := 6))) sc_law_cuts.nd))))) (by rfl)) (vs_one (vs_retFr (ve_catL (ve_ow (i := 3)) (ve_lst (va_cons (ve_im (i := 4)) va_nil))))))))
theorem sc_law_shape : FnScope ["_law_script", "_law_at", "_law_k", "_law_names", "_law_room", "_law_shape_here", "_law_size_here", "_law_elders", "_law_j", "_law_turn", "_law_one", "_law_other", "_law_base", "_law_values_here"] ["_law_script", "_law_at", "_law_k", "_law_names", "_law_room"] (defScope s_law_shape) := ⟨rfl, rfl, rfl, by decide +kernel, rfl, by decide +kernel, by decide +kernel⟩
theorem okM_law_shape (T : Tx K mg) : FnOk P w K mg base (L2.CX P w) 2 T.f_law_shape T.fd_law_shape ["_law_script", "_law_at", "_law_k", "_law_names", "_law_room"] (spF K mg [.ar, .im, .im, .im, .im] .fr (M_law_shape)) := by
  refine okVr (ms := [.ar, .im, .im, .im, .im]) (G' := [.ar, .im, .im, .im, .im, .im, .im, .im, .un, .im, .un, .im, .im, .im]) (g := G_law_shape) T.F_law_shape sc_law_shape rfl rfl fun cdv A outer s H E hr => ?_
  have tk : Takes (cxOf (L2.CX P w) P w K mg base ["_law_script", "_law_at", "_law_k", "_law_names", "_law_room", "_law_shape_here", "_law_size_here", "_law_elders", "_law_j", "_law_turn", "_law_one", "_law_other", "_law_base", "_law_values_here"] "_law_shape" (defScope s_law_shape) T.f_law_shape cdv A outer s H E) (fun cls d _ H => E cls d H) := takes_of rfl rfl rfl rfl
  exact (vs_cons (vs_set (i := 5) (ve_call (rm := .im) (okM_law_cell T) (hr.mono (by decide)) T.g_law_cell T.F_law_cell.kp T.b_law_cell tk (va_cons (ve_ar (i := 0)) (va_cons (ve_bin op_addF d_add (ve_bin op_addF d_add (ve_im (i := 1)) ve_int) (ve_bin op_mulOk d_mul ve_int (ve_im (i := 2)))) va_nil))) sc_law_shape.nd) (vs_cons (vs_set (i := 6) (ve_blt (call_minA rfl) d_min T.n_min boot_min (va_cons (ve_bin op_addF d_add ve_int (ve_item (ve_lst (va_cons ve_int (va_cons ve_int (va_cons ve_int (va_cons ve_int (va_cons ve_int (va_cons ve_int va_nil))))))) (ve_bin op_mod d_mod (ve_im (i := 5)) ve_int))) (va_cons (ve_blt (call_maxA rfl) d_max T.n_max boot_max (va_cons ve_int (va_cons (ve_im (i := 4)) va_nil))) va_nil))) sc_law_shape.nd) (vs_cons (vs_set (i := 7) (ve_frz (ve_slL (ve_comp (G1 := [.ar, .im, .im, .im, .im, .im, .im, .un, .im, .un, .un, .un, .un, .un]) (own := [("_law_j", 8)]) rfl sc_law_shape.nd (vi_range1 T.n_range (va_cons (ve_im (i := 2)) va_nil)) (show BlkOk ["_law_script", "_law_at", "_law_k", "_law_names", "_law_room", "_law_shape_here", "_law_size_here", "_law_elders", "_law_j", "_law_turn", "_law_one", "_law_other", "_law_base", "_law_values_here"] (defScope s_law_shape) _ [("_law_j", 8)] from ⟨rfl, by decide +kernel, by decide +kernel, by decide +kernel, by decide +kernel⟩) (fun _ _ _ _ _ => (vg_name (i := 8) sc_law_shape.nd)) (fun _ _ _ _ _ => (vts_one (PW.pt (vw_and (vt_cmp (op_eqA hr) d_eq (ve_bin op_mod d_mod (ve_bin op_fdivP d_fdiv (ve_bin op_fdivP d_fdiv (ve_im (i := 5)) ve_int) (ve_bin op_shlW d_shl ve_int (ve_im (i := 8)))) ve_int) ve_int) (vw_and1 (vt_cmp op_gt d_gt (ve_bin op_mod d_mod (ve_bin op_fdivP d_fdiv (ve_im (i := 5)) ve_int) ve_int) ve_int)))))) (fun _ _ _ _ _ => (ve_item (ve_im (i := 3)) (ve_im (i := 8))))) vo_none (vo_some ve_int))) sc_law_shape.nd) (vs_cons (vs_set (i := 9) (ve_bin op_mod d_mod (ve_bin op_fdivP d_fdiv (ve_im (i := 5)) ve_int) (ve_blt (call_maxA rfl) d_max T.n_max boot_max (va_cons ve_int (va_cons (ve_blt call_len d_len T.n_len PySem.boot_len (va_cons (ve_im (i := 7)) va_nil)) va_nil)))) sc_law_shape.nd) (vs_cons (vs_set (i := 7) (ve_frz (ve_catL (ve_slL (ve_im (i := 7)) (vo_some (ve_im (i := 9))) vo_none) (ve_slL (ve_im (i := 7)) vo_none (vo_some (ve_im (i := 9)))))) sc_law_shape.nd) (vs_cons (vs_if (G' := [.ar, .im, .im, .im, .im, .im, .im, .im, .un, .im, .un, .un, .un, .un]) (vt_cmp (op_eqA hr) d_eq (ve_bin op_mod d_mod (ve_bin op_fdivP d_fdiv (ve_im (i := 5)) ve_int) ve_int) ve_int) (vs_one (vs_compIm (i := 7) (G1 := [.ar, .im, .im, .im, .im, .im, .im, .im, .un, .im, .im, .un, .un, .un]) (own := [("_law_one", 10)]) rfl sc_law_shape.nd (vi_revL (m := .im) T.n_reversed (ve_im (i := 7))) (show BlkOk ["_law_script", "_law_at", "_law_k", "_law_names", "_law_room", "_law_shape_here", "_law_size_here", "_law_elders", "_law_j", "_law_turn", "_law_one", "_law_other", "_law_base", "_law_values_here"] (defScope s_law_shape) _ [("_law_one", 10)] from ⟨rfl, by decide +kernel, by decide +kernel, by decide +kernel, by decide +kernel⟩) (fun _ _ _ _ _ => (vg_name (i := 10) sc_law_shape.nd)) (fun _ _ _ _ _ => vts_nil) (fun _ _ _ _ _ => (ve_im (i := 10))))) vs_nil) (vs_cons (vs_set (i := 11) (ve_call (rm := .im) (okM_law_cell T) (hr.mono (by decide)) T.g_law_cell T.F_law_cell.kp T.b_law_cell tk (va_cons (ve_ar (i := 0)) (va_cons (ve_bin op_addF d_add (ve_bin op_addF d_add (ve_im (i := 1)) ve_int) (ve_bin op_mulOk d_mul ve_int (ve_im (i := 2)))) va_nil))) sc_law_shape.nd) (vs_cons (vs_set (i := 12) (ve_call (rm := .im) (okM_law_cell T) (hr.mono (by decide)) T.g_law_cell T.F_law_cell.kp T.b_law_cell tk (va_cons (ve_ar (i := 0)) (va_cons (ve_bin op_addF d_add (ve_im (i := 1)) ve_int) va_nil))) sc_law_shape.nd) (vs_cons (vs_set (i := 13) (ve_frz (ve_call (rm := .fr) (okM_law_words T) (hr.mono (by decide)) T.g_law_words T.F_law_words.kp T.b_law_words tk (va_cons (ve_item (ve_lst (va_cons (ve_bin op_fdivP d_fdiv (ve_im (i := 12)) ve_int) (va_cons (ve_im (i := 12)) (va_cons (ve_bin op_fdivP d_fdiv (ve_im (i := 11)) ve_int) (va_cons (ve_bin op_fdivP d_fdiv (ve_im (i := 11)) ve_int) va_nil))))) (ve_bin op_mod d_mod (ve_bin op_fdivP d_fdiv (ve_im (i := 11)) ve_int) ve_int)) (va_cons (ve_im (i := 6)) va_nil)))) sc_law_shape.nd) (vs_one (vs_retFr (ve_lst (va_cons (ve_im (i := 13)) (va_cons (ve_im (i := 7)) (va_cons (ve_bin op_addF d_add ve_int (ve_bin op_mod d_mod (ve_bin op_fdivP d_fdiv (ve_im (i := 11)) ve_int) (ve_item (ve_lst (va_cons ve_int (va_cons (ve_bin op_pow d_pow ve_int ve_int) va_nil))) (ve_bin op_mod d_mod (ve_im (i := 11)) ve_int)))) va_nil)))))))))))))))
theorem sc_law_rows : FnScope ["_law_script", "_law_at", "_law_most", "_law_top", "_law_count", "_law_names", "_law_rows_here", "_law_sizes", "_law_total", "_law_spot", "_law_k", "_law_turns", "_law_one", "_law_table", "_law_values_here", "_law_elders", "_law_many", "_law_j"] ["_law_script", "_law_at", "_law_most", "_law_top"] (defScope s_law_rows) := ⟨rfl, rfl, rfl, by decide +kernel, rfl, by decide +kernel, by decide +kernel⟩
theorem okM_law_rows (T : Tx K mg) : FnOk P w K mg base (L2.CX P w) 3 T.f_law_rows T.fd_law_rows ["_law_script", "_law_at", "_law_most", "_law_top"] (spF K mg [.ar, .im, .im, .im] .fr (M_law_rows)) := by
  refine okVr (ms := [.ar, .im, .im, .im]) (G' := [.ar, .im, .im, .im, .im, .im, .ow, .ow, .im, .im, .un, .un, .un, .un, .un, .un, .un, .un]) (g := G_law_rows) T.F_law_rows sc_law_rows rfl rfl fun cdv A outer s H E hr => ?_
  have tk : Takes (cxOf (L2.CX P w) P w K mg base ["_law_script", "_law_at", "_law_most", "_law_top", "_law_count", "_law_names", "_law_rows_here", "_law_sizes", "_law_total", "_law_spot", "_law_k", "_law_turns", "_law_one", "_law_table", "_law_values_here", "_law_elders", "_law_many", "_law_j"] "_law_rows" (defScope s_law_rows) T.f_law_rows cdv A outer s H E) (fun cls d _ H => E cls d H) := takes_of rfl rfl rfl rfl
  have hp := passes_of (X := (cxOf (L2.CX P w) P w K mg base ["_law_script", "_law_at", "_law_most", "_law_top", "_law_count", "_law_names", "_law_rows_here", "_law_sizes", "_law_total", "_law_spot", "_law_k", "_law_turns", "_law_one", "_law_table", "_law_values_here", "_law_elders", "_law_many", "_law_j"] "_law_rows" (defScope s_law_rows) T.f_law_rows cdv A outer s H E)) rfl
  exact (vs_cons (vs_set (i := 4) (ve_bin op_addF d_add ve_int (ve_bin op_mod d_mod (ve_call (rm := .im) (okM_law_cell T) (hr.mono (by decide)) T.g_law_cell T.F_law_cell.kp T.b_law_cell tk (va_cons (ve_ar (i := 0)) (va_cons (ve_im (i := 1)) va_nil))) (ve_im (i := 2)))) sc_law_rows.nd) (vs_cons (vs_set (i := 5) (ve_frz (ve_call (rm := .fr) (okM_law_words T) (hr.mono (by decide)) T.g_law_words T.F_law_words.kp T.b_law_words tk (va_cons (ve_call (rm := .im) (okM_law_cell T) (hr.mono (by decide)) T.g_law_cell T.F_law_cell.kp T.b_law_cell tk (va_cons (ve_ar (i := 0)) (va_cons (ve_bin op_addF d_add (ve_im (i := 1)) ve_int) va_nil))) (va_cons (ve_im (i := 4)) va_nil)))) sc_law_rows.nd) (vs_cons (vs_setOw (i := 6) (ve_lst va_nil) sc_law_rows.nd) (vs_cons (vs_setOw (i := 7) ve_dnew sc_law_rows.nd) (vs_cons (vs_set (i := 8) ve_int sc_law_rows.nd) (vs_cons (vs_set (i := 9) (ve_bin op_addF d_add (ve_bin op_addF d_add (ve_im (i := 1)) ve_int) (ve_bin op_mulOk d_mul ve_int (ve_im (i := 4)))) sc_law_rows.nd) (vs_cons (vs_for hp rfl (vi_range1 T.n_range (va_cons (ve_im (i := 4)) va_nil)) (vg_name (i := 10) sc_law_rows.nd) (vs_cons (vs_unp (m := .im) (ve_frz (ve_call (rm := .fr) (okM_law_shape T) (hr.mono (by decide)) T.g_law_shape T.F_law_shape.kp T.b_law_shape tk (va_cons (ve_ar (i := 0)) (va_cons (ve_im (i := 1)) (va_cons (ve_im (i := 10)) (va_cons (ve_im (i := 5)) (va_cons (ve_bin op_fdivP d_fdiv (ve_im (i := 3)) (ve_bin op_mulOk d_mul (ve_im (i := 8)) (ve_bin op_shlW d_shl ve_int (ve_bin op_sub d_sub (ve_bin op_sub d_sub (ve_im (i := 4)) (ve_im (i := 10))) ve_int)))) va_nil))))))) (vg_lst rfl (pn_cons sc_law_rows.nd (pn_cons sc_law_rows.nd (pn_cons sc_law_rows.nd pn_nil))))) (vs_cons (vs_dput (hu_of hr) (i := 7) (ve_blt call_len d_len T.n_len PySem.boot_len (va_cons (ve_im (i := 14)) va_nil)) (ve_item (ve_im (i := 5)) (ve_im (i := 10)))) (vs_cons (vs_set (i := 8) (ve_bin op_mulOk d_mul (ve_im (i := 8)) (ve_blt call_len d_len T.n_len PySem.boot_len (va_cons (ve_im (i := 14)) va_nil))) sc_law_rows.nd) (vs_cons (vs_set (i := 11) ve_int sc_law_rows.nd) (vs_cons (vs_for hp rfl (vi_list (m := .im) (ve_im (i := 15))) (vg_name (i := 12) sc_law_rows.nd) (vs_one (vs_set (i := 11) (ve_bin op_mulOk d_mul (ve_im (i := 11)) (ve_dget (hu_of hr) (ve_ow (i := 7)) (ve_im (i := 12)))) sc_law_rows.nd)) (by rfl)) (vs_cons (vs_compIm (i := 13) (G1 := [.ar, .im, .im, .im, .im, .im, .ow, .ow, .im, .im, .im, .im, .un, .un, .im, .im, .im, .im]) (own := [("_law_j", 17)]) rfl sc_law_rows.nd (vi_range1 T.n_range (va_cons (ve_im (i := 11)) va_nil)) (show BlkOk ["_law_script", "_law_at", "_law_most", "_law_top", "_law_count", "_law_names", "_law_rows_here", "_law_sizes", "_law_total", "_law_spot", "_law_k", "_law_turns", "_law_one", "_law_table", "_law_values_here", "_law_elders", "_law_many", "_law_j"] (defScope s_law_rows) _ [("_law_j", 17)] from ⟨rfl, by decide +kernel, by decide +kernel, by decide +kernel, by decide +kernel⟩) (fun _ _ _ _ _ => (vg_name (i := 17) sc_law_rows.nd)) (fun _ _ _ _ _ => vts_nil) (fun _ _ _ _ _ => (ve_frz (ve_call (rm := .fr) (okM_law_cuts T) (hr.mono (by decide)) T.g_law_cuts T.F_law_cuts.kp T.b_law_cuts takes0 (va_cons (ve_call (rm := .im) (okM_law_cell T) (hr.mono (by decide)) T.g_law_cell T.F_law_cell.kp T.b_law_cell takes0 (va_cons (ve_ar (i := 0)) (va_cons (ve_bin op_addF d_add (ve_im (i := 9)) (ve_im (i := 17))) va_nil))) (va_cons (ve_blt call_len d_len T.n_len PySem.boot_len (va_cons (ve_im (i := 14)) va_nil)) (va_cons (ve_im (i := 16)) va_nil))))))) (vs_cons (vs_set (i := 9) (ve_bin op_addF d_add (ve_im (i := 9)) (ve_im (i := 11))) sc_law_rows.nd) (vs_one (vs_own (i := 6) PySem.F.slot_list_append rfl mt_append mu_app (va_cons (ve_tup (va_cons (ve_item (ve_im (i := 5)) (ve_im (i := 10))) (va_cons (ve_im (i := 14)) (va_cons (ve_im (i := 15)) (va_cons (ve_im (i := 13)) va_nil))))) va_nil)))))))))) (by rfl)) (vs_one (vs_retOw (i := 6))))))))))
theorem sc_law_alike : FnScope ["_law_found", "_law_due", "_law_one", "_law_other"] ["_law_found", "_law_due"] (defScope s_law_alike) := ⟨rfl, rfl, rfl, by decide +kernel, rfl, by decide +kernel, by decide +kernel⟩
theorem okM_law_alike (T : Tx K mg) : ∀ k : Nat, FnOk P w K mg base (L2.CX P w) (1 + k) T.f_law_alike T.fd_law_alike ["_law_found", "_law_due"] (spF K mg [.ar, .im] .im (M_law_alike k))
  | 0 => FnOk.bad
  | k + 1 => by
    have okR := okM_law_alike T k
    refine okV (k := 1 + k) (ms := [.ar, .im]) (G' := [.ar, .im, .un, .un]) (g := G_law_alike (M_law_alike k)) T.F_law_alike sc_law_alike rfl rfl fun cdv A outer s H E hr => ?_
    generalize M_law_alike k = MR at *
    have tk : Takes (cxOf (L2.CX P w) P w K mg base ["_law_found", "_law_due", "_law_one", "_law_other"] "_law_alike" (defScope s_law_alike) T.f_law_alike cdv A outer s H E) (fun cls d _ H => E cls d H) := takes_of rfl rfl rfl rfl
    have hp := passes_of (X := (cxOf (L2.CX P w) P w K mg base ["_law_found", "_law_due", "_law_one", "_law_other"] "_law_alike" (defScope s_law_alike) T.f_law_alike cdv A outer s H E)) rfl
    exact (vs_cons (vs_if (G' := [.ar, .im, .un, .un]) (PW.pt (vw_or (vt_val (ve_isi (Tn := "bool") T.n_isinstance T.n_bool (by decide +kernel) (ve_im (i := 1)))) (vw_or (vt_val (ve_isi (Tn := "str") T.n_isinstance T.n_str (by decide +kernel) (ve_im (i := 1)))) (vw_or1 (vt_val (ve_isi (Tn := "int") T.n_isinstance T.n_int (by decide +kernel) (ve_im (i := 1)))))))) (vs_cons (vs_if (G' := [.ar, .im, .un, .un]) (PW.pt (vw_or (vt_cmp (op_neA hr) d_ne (ve_isi (Tn := "bool") T.n_isinstance T.n_bool (by decide +kernel) (ve_ar (i := 0))) (ve_isi (Tn := "bool") T.n_isinstance T.n_bool (by decide +kernel) (ve_im (i := 1)))) (vw_or1 (vt_cmp (op_neA hr) d_ne (ve_isi (Tn := "str") T.n_isinstance T.n_str (by decide +kernel) (ve_ar (i := 0))) (ve_isi (Tn := "str") T.n_isinstance T.n_str (by decide +kernel) (ve_im (i := 1))))))) (vs_one (vs_ret ve_bl)) vs_nil) (vs_one (vs_ret (ve_and (ve_isi2 (N1 := "int") (N2 := "str") T.n_isinstance T.n_int T.n_str (by decide +kernel) (by decide +kernel) (ve_ar (i := 0))) (ve_one (ve_cmp (op_eqA hr) d_eq (ve_ar (i := 0)) (ve_im (i := 1)))))))) vs_nil) (vs_cons (vs_if (G' := [.ar, .im, .un, .un]) (PW.pt (vw_or (vt_cmp (op_neA hr) d_ne (ve_isi (Tn := "list") T.n_isinstance T.n_list (by decide +kernel) (ve_ar (i := 0))) (ve_isi (Tn := "list") T.n_isinstance T.n_list (by decide +kernel) (ve_im (i := 1)))) (vw_or1 (vt_not (vt_val (ve_isi2 (N1 := "list") (N2 := "tuple") T.n_isinstance T.n_list T.n_tuple (by decide +kernel) (by decide +kernel) (ve_ar (i := 0)))))))) (vs_one (vs_ret ve_bl)) vs_nil) (vs_cons (vs_if (G' := [.ar, .im, .un, .un]) (vt_cmp (op_neA hr) d_ne (ve_blt call_len d_len T.n_len PySem.boot_len (va_cons (ve_ar (i := 0)) va_nil)) (ve_blt call_len d_len T.n_len PySem.boot_len (va_cons (ve_im (i := 1)) va_nil))) (vs_one (vs_ret ve_bl)) vs_nil) (vs_cons (vs_forP (i := 2) (j := 3) hp rfl sc_law_alike.nd (vi_zipA (m1 := .ar) (m2 := .im) T.n_zip (ve_ar (i := 0)) (ve_im (i := 1))) (vs_one (vs_if (G' := [.ar, .im, .ar, .im]) (vt_not (vt_val (ve_call (rm := .im) okR (hr.mono (by omega)) T.g_law_alike T.F_law_alike.kp T.b_law_alike tk (va_cons (ve_ar (i := 2)) (va_cons (ve_im (i := 3)) va_nil))))) (vs_one (vs_ret ve_bl)) vs_nil)) (by rfl)) (vs_one (vs_ret ve_bl))))))
theorem sc_law_net : FnScope ["_law_rows_here", "_law_entries", "_law_name", "_law_values_here", "_law_elders", "_law_table", "_law_numbers", "_law_row"] ["_law_rows_here"] (defScope s_law_net) := ⟨rfl, rfl, rfl, by decide +kernel, rfl, by decide +kernel, by decide +kernel⟩
theorem okM_law_net (T : Tx K mg) : FnOk P w K mg base (L2.CX P w) 1 T.f_law_net T.fd_law_net ["_law_rows_here"] (spF K mg [.im] .im (M_law_net)) := by
  refine okV (ms := [.im]) (G' := [.im, .ow, .un, .un, .un, .un, .un, .un]) (g := G_law_net) T.F_law_net sc_law_net rfl rfl fun cdv A outer s H E hr => ?_
  have hp := passes_of (X := (cxOf (L2.CX P w) P w K mg base ["_law_rows_here", "_law_entries", "_law_name", "_law_values_here", "_law_elders", "_law_table", "_law_numbers", "_law_row"] "_law_net" (defScope s_law_net) T.f_law_net cdv A outer s H E)) rfl
  exact (vs_cons (vs_setOw (i := 1) (ve_lst va_nil) sc_law_net.nd) (vs_cons (vs_for hp rfl (vi_list (m := .im) (ve_im (i := 0))) (vg_tup rfl (pn_cons sc_law_net.nd (pn_cons sc_law_net.nd (pn_cons sc_law_net.nd (pn_cons sc_law_net.nd pn_nil))))) (vs_cons (vs_set (i := 6) (ve_tuple T.n_tuple (ve_comp (G1 := [.im, .ow, .im, .im, .im, .im, .un, .im]) (own := [("_law_row", 7)]) rfl sc_law_net.nd (vi_list (m := .im) (ve_im (i := 5))) (show BlkOk ["_law_rows_here", "_law_entries", "_law_name", "_law_values_here", "_law_elders", "_law_table", "_law_numbers", "_law_row"] (defScope s_law_net) _ [("_law_row", 7)] from ⟨rfl, by decide +kernel, by decide +kernel, by decide +kernel, by decide +kernel⟩) (fun _ _ _ _ _ => (vg_name (i := 7) sc_law_net.nd)) (fun _ _ _ _ _ => vts_nil) (fun _ _ _ _ _ => (ve_tuple T.n_tuple (ve_im (i := 7)))))) sc_law_net.nd) (vs_one (vs_own (i := 1) PySem.F.slot_list_append rfl mt_append mu_app (va_cons (ve_tup (va_cons (ve_im (i := 2)) (va_cons (ve_tuple T.n_tuple (ve_im (i := 3))) (va_cons (ve_tuple T.n_tuple (ve_im (i := 4))) (va_cons (ve_blt (cr_sum rfl) d_sum T.n_sum boot_sum (va_cons (ve_item (ve_im (i := 5)) ve_int) va_nil)) (va_cons (ve_im (i := 6)) va_nil)))))) va_nil)))) (by rfl)) (vs_one (vs_ret (ve_tuple T.n_tuple (ve_ow (i := 1)))))))
theorem sc_law_values : FnScope ["_law_net_here", "_law_name", "_law_entry"] ["_law_net_here", "_law_name"] (defScope s_law_values) := ⟨rfl, rfl, rfl, by decide +kernel, rfl, by decide +kernel, by decide +kernel⟩
theorem okM_law_values (T : Tx K mg) : FnOk P w K mg base (L2.CX P w) 1 T.f_law_values T.fd_law_values ["_law_net_here", "_law_name"] (spF K mg [.im, .im] .im (M_law_values)) := by
  refine okV (ms := [.im, .im]) (G' := [.im, .im, .un]) (g := G_law_values) T.F_law_values sc_law_values rfl rfl fun cdv A outer s H E hr => ?_
  have hp := passes_of (X := (cxOf (L2.CX P w) P w K mg base ["_law_net_here", "_law_name", "_law_entry"] "_law_values" (defScope s_law_values) T.f_law_values cdv A outer s H E)) rfl
  exact (vs_cons (vs_for hp rfl (vi_tup (m := .im) (ve_im (i := 0))) (vg_name (i := 2) sc_law_values.nd) (vs_one (vs_if (G' := [.im, .im, .im]) (vt_cmp (op_eqA hr) d_eq (ve_item (ve_im (i := 2)) ve_int) (ve_im (i := 1))) (vs_one (vs_ret (ve_item (ve_im (i := 2)) ve_int))) vs_nil)) (by rfl)) (vs_one (vs_ret (ve_tup va_nil))))
theorem sc_law_size : FnScope ["_law_net_here", "_law_names", "_law_total", "_law_name"] ["_law_net_here", "_law_names"] (defScope s_law_size) := ⟨rfl, rfl, rfl, by decide +kernel, rfl, by decide +kernel, by decide +kernel⟩
theorem okM_law_size (T : Tx K mg) : FnOk P w K mg base (L2.CX P w) 2 T.f_law_size T.fd_law_size ["_law_net_here", "_law_names"] (spF K mg [.im, .im] .im (M_law_size)) := by
  refine okV (ms := [.im, .im]) (G' := [.im, .im, .im, .un]) (g := G_law_size) T.F_law_size sc_law_size rfl rfl fun cdv A outer s H E hr => ?_
  have tk : Takes (cxOf (L2.CX P w) P w K mg base ["_law_net_here", "_law_names", "_law_total", "_law_name"] "_law_size" (defScope s_law_size) T.f_law_size cdv A outer s H E) (fun cls d _ H => E cls d H) := takes_of rfl rfl rfl rfl
  have hp := passes_of (X := (cxOf (L2.CX P w) P w K mg base ["_law_net_here", "_law_names", "_law_total", "_law_name"] "_law_size" (defScope s_law_size) T.f_law_size cdv A outer s H E)) rfl
  exact (vs_cons (vs_set (i := 2) ve_int sc_law_size.nd) (vs_cons (vs_for hp rfl (vi_list (m := .im) (ve_im (i := 1))) (vg_name (i := 3) sc_law_size.nd) (vs_one (vs_set (i := 2) (ve_bin op_mulOk d_mul (ve_im (i := 2)) (ve_blt call_len d_len T.n_len PySem.boot_len (va_cons (ve_call (rm := .im) (okM_law_values T) (hr.mono (by decide)) T.g_law_values T.F_law_values.kp T.b_law_values tk (va_cons (ve_im (i := 0)) (va_cons (ve_im (i := 3)) va_nil))) va_nil))) sc_law_size.nd)) (by rfl)) (vs_one (vs_ret (ve_im (i := 2))))))
theorem sc_law_choice : FnScope ["_law_net_here", "_law_names", "_law_k", "_law_found", "_law_name", "_law_values_here"] ["_law_net_here", "_law_names", "_law_k"] (defScope s_law_choice) := ⟨rfl, rfl, rfl, by decide +kernel, rfl, by decide +kernel, by decide +kernel⟩
theorem okM_law_choice (T : Tx K mg) : FnOk P w K mg base (L2.CX P w) 2 T.f_law_choice T.fd_law_choice ["_law_net_here", "_law_names", "_law_k"] (spF K mg [.im, .im, .im] .fr (M_law_choice)) := by
  refine okVr (ms := [.im, .im, .im]) (G' := [.im, .im, .im, .ow, .un, .un]) (g := G_law_choice) T.F_law_choice sc_law_choice rfl rfl fun cdv A outer s H E hr => ?_
  have tk : Takes (cxOf (L2.CX P w) P w K mg base ["_law_net_here", "_law_names", "_law_k", "_law_found", "_law_name", "_law_values_here"] "_law_choice" (defScope s_law_choice) T.f_law_choice cdv A outer s H E) (fun cls d _ H => E cls d H) := takes_of rfl rfl rfl rfl
  have hp := passes_of (X := (cxOf (L2.CX P w) P w K mg base ["_law_net_here", "_law_names", "_law_k", "_law_found", "_law_name", "_law_values_here"] "_law_choice" (defScope s_law_choice) T.f_law_choice cdv A outer s H E)) rfl
  exact (vs_cons (vs_setOw (i := 3) ve_dnew sc_law_choice.nd) (vs_cons (vs_for hp rfl (vi_revL (m := .im) T.n_reversed (ve_im (i := 1))) (vg_name (i := 4) sc_law_choice.nd) (vs_cons (vs_set (i := 5) (ve_call (rm := .im) (okM_law_values T) (hr.mono (by decide)) T.g_law_values T.F_law_values.kp T.b_law_values tk (va_cons (ve_im (i := 0)) (va_cons (ve_im (i := 4)) va_nil))) sc_law_choice.nd) (vs_cons (vs_dput (hu_of hr) (i := 3) (ve_item (ve_im (i := 5)) (ve_bin op_mod d_mod (ve_im (i := 2)) (ve_blt call_len d_len T.n_len PySem.boot_len (va_cons (ve_im (i := 5)) va_nil)))) (ve_im (i := 4))) (vs_one (vs_set (i := 2) (ve_bin op_fdivP d_fdiv (ve_im (i := 2)) (ve_blt call_len d_len T.n_len PySem.boot_len (va_cons (ve_im (i := 5)) va_nil))) sc_law_choice.nd)))) (by rfl)) (vs_one (vs_retOw (i := 3)))))
theorem sc_law_part : FnScope ["_law_net_here", "_law_entry", "_law_choice_here", "_law_at", "_law_elder", "_law_values_here"] ["_law_net_here", "_law_entry", "_law_choice_here"] (defScope s_law_part) := ⟨rfl, rfl, rfl, by decide +kernel, rfl, by decide +kernel, by decide +kernel⟩
theorem okM_law_part (T : Tx K mg) : FnOk P w K mg base (L2.CX P w) 2 T.f_law_part T.fd_law_part ["_law_net_here", "_law_entry", "_law_choice_here"] (spF K mg [.im, .im, .im] .im (M_law_part)) := by
  refine okV (ms := [.im, .im, .im]) (G' := [.im, .im, .im, .im, .un, .un]) (g := G_law_part) T.F_law_part sc_law_part rfl rfl fun cdv A outer s H E hr => ?_
  have tk : Takes (cxOf (L2.CX P w) P w K mg base ["_law_net_here", "_law_entry", "_law_choice_here", "_law_at", "_law_elder", "_law_values_here"] "_law_part" (defScope s_law_part) T.f_law_part cdv A outer s H E) (fun cls d _ H => E cls d H) := takes_of rfl rfl rfl rfl
  have hp := passes_of (X := (cxOf (L2.CX P w) P w K mg base ["_law_net_here", "_law_entry", "_law_choice_here", "_law_at", "_law_elder", "_law_values_here"] "_law_part" (defScope s_law_part) T.f_law_part cdv A outer s H E)) rfl
  exact (vs_cons (vs_set (i := 3) ve_int sc_law_part.nd) (vs_cons (vs_for hp rfl (vi_tup (m := .im) (ve_item (ve_im (i := 1)) ve_int)) (vg_name (i := 4) sc_law_part.nd) (vs_cons (vs_set (i := 5) (ve_call (rm := .im) (okM_law_values T) (hr.mono (by decide)) T.g_law_values T.F_law_values.kp T.b_law_values tk (va_cons (ve_im (i := 0)) (va_cons (ve_im (i := 4)) va_nil))) sc_law_part.nd) (vs_one (vs_set (i := 3) (ve_bin op_addF d_add (ve_bin op_mulOk d_mul (ve_im (i := 3)) (ve_blt call_len d_len T.n_len PySem.boot_len (va_cons (ve_im (i := 5)) va_nil))) (ve_idxT (ve_im (i := 5)) (ve_dget (hu_of hr) (ve_im (i := 2)) (ve_im (i := 4))))) sc_law_part.nd))) (by rfl)) (vs_one (vs_ret (ve_item (ve_item (ve_item (ve_im (i := 1)) ve_int) (ve_im (i := 3))) (ve_idxT (ve_item (ve_im (i := 1)) ve_int) (ve_dget (hu_of hr) (ve_im (i := 2)) (ve_item (ve_im (i := 1)) ve_int))))))))
theorem sc_law_all : FnScope ["_law_net_here", "_law_names", "_law_entry", "_law_found", "_law_k", "_law_choice_here", "_law_parts"] ["_law_net_here"] (defScope s_law_all) := ⟨rfl, rfl, rfl, by decide +kernel, rfl, by decide +kernel, by decide +kernel⟩
theorem okM_law_all (T : Tx K mg) : FnOk P w K mg base (L2.CX P w) 3 T.f_law_all T.fd_law_all ["_law_net_here"] (spF K mg [.im] .fr (M_law_all)) := by
  refine okVr (ms := [.im]) (G' := [.im, .im, .un, .ow, .un, .un, .un]) (g := G_law_all) T.F_law_all sc_law_all rfl rfl fun cdv A outer s H E hr => ?_
  have tk : Takes (cxOf (L2.CX P w) P w K mg base ["_law_net_here", "_law_names", "_law_entry", "_law_found", "_law_k", "_law_choice_here", "_law_parts"] "_law_all" (defScope s_law_all) T.f_law_all cdv A outer s H E) (fun cls d _ H => E cls d H) := takes_of rfl rfl rfl rfl
  have hp := passes_of (X := (cxOf (L2.CX P w) P w K mg base ["_law_net_here", "_law_names", "_law_entry", "_law_found", "_law_k", "_law_choice_here", "_law_parts"] "_law_all" (defScope s_law_all) T.f_law_all cdv A outer s H E)) rfl
  exact (vs_cons (vs_compIm (i := 1) (G1 := [.im, .un, .im, .un, .un, .un, .un]) (own := [("_law_entry", 2)]) rfl sc_law_all.nd (vi_tup (m := .im) (ve_im (i := 0))) (show BlkOk ["_law_net_here", "_law_names", "_law_entry", "_law_found", "_law_k", "_law_choice_here", "_law_parts"] (defScope s_law_all) _ [("_law_entry", 2)] from ⟨rfl, by decide +kernel, by decide +kernel, by decide +kernel, by decide +kernel⟩) (fun _ _ _ _ _ => (vg_name (i := 2) sc_law_all.nd)) (fun _ _ _ _ _ => vts_nil) (fun _ _ _ _ _ => (ve_item (ve_im (i := 2)) ve_int))) (vs_cons (vs_setOw (i := 3) (ve_lst va_nil) sc_law_all.nd) (vs_cons (vs_for hp rfl (vi_range1 T.n_range (va_cons (ve_call (rm := .im) (okM_law_size T) (hr.mono (by decide)) T.g_law_size T.F_law_size.kp T.b_law_size tk (va_cons (ve_im (i := 0)) (va_cons (ve_im (i := 1)) va_nil))) va_nil)) (vg_name (i := 4) sc_law_all.nd) (vs_cons (vs_set (i := 5) (ve_frz (ve_call (rm := .fr) (okM_law_choice T) (hr.mono (by decide)) T.g_law_choice T.F_law_choice.kp T.b_law_choice tk (va_cons (ve_im (i := 0)) (va_cons (ve_im (i := 1)) (va_cons (ve_im (i := 4)) va_nil))))) sc_law_all.nd) (vs_cons (vs_set (i := 6) ve_int sc_law_all.nd) (vs_cons (vs_for hp rfl (vi_tup (m := .im) (ve_im (i := 0))) (vg_name (i := 2) sc_law_all.nd) (vs_one (vs_set (i := 6) (ve_bin op_mulOk d_mul (ve_im (i := 6)) (ve_call (rm := .im) (okM_law_part T) (hr.mono (by decide)) T.g_law_part T.F_law_part.kp T.b_law_part tk (va_cons (ve_im (i := 0)) (va_cons (ve_im (i := 2)) (va_cons (ve_im (i := 5)) va_nil))))) sc_law_all.nd)) (by rfl)) (vs_one (vs_own (i := 3) PySem.F.slot_list_append rfl mt_append mu_app (va_cons (ve_tup (va_cons (ve_im (i := 5)) (va_cons (ve_im (i := 6)) va_nil))) va_nil)))))) (by rfl)) (vs_one (vs_retOw (i := 3))))))
def G_law : List D → R Fl := (sSeq (sAsg 1 (eCall M_law_net (aCons (eCall M_law_rows (aCons (eVar 0) (aCons (eC (.int 0)) (aCons (eC (.int 6)) (aCons (eC (.int 64)) aNil))))) aNil))) (sSeq (sAsg 2 (eLst aNil)) (sSeq (sFor (iLst (eCall M_law_all (aCons (eVar 1) aNil))) (tgTup [3, 4]) (sOwn 2 gApp (aCons (eTup (aCons (eAsT .fr (eComp (iTupl (eVar 1)) (tgName 5) tTrue (eDGet (eVar 3) (eIx (eVar 5) (eC (.int 0)))))) (aCons (eVar 4) aNil))) aNil))) (sSeq (sAsg 6 (eCall M_ways (aCons (eVar 1) aNil))) (sSeq (sIf (tNotB (tVal (eCall (M_law_alike 8) (aCons (eVar 6) (aCons (eVar 2) aNil))))) (sRet (eC (.bl false))) sNil) (sSeq (sOwn 6 gClear aNil) (sRet (eCall (M_law_alike 8) (aCons (eCall M_ways (aCons (eVar 1) aNil)) (aCons (eVar 2) aNil))))))))))
def M_law : List D → R D := runF 7 (G_law)
def T_law_b1 (v_net_here : (List (Str × (List Str) × (List Str) × Int × (List (List Int))))) (s1 : (List ((List Str) × Int))) (a2 : ((List (Str × Str)) × Int)) : R (List ((List Str) × Int)) := ((((((R.ok v_net_here).bind fun l => (cmpR (fun (a3 : (Str × (List Str) × (List Str) × Int × (List (List Int)))) => (R.ok true)) (fun (a3 : (Str × (List Str) × (List Str) × Int × (List (List Int)))) => (dgetR a2.1 a3.1)) l).bind fitN).bind fun x => ((R.ok a2.2).bind fun x => (R.ok ()).bind fun xs => R.ok (x, xs)).bind fun xs => R.ok (x, xs)).bind fun t => R.ok (t.1, t.2.1)).bind fun x => appR s1 x).bind fun (v_due : (List ((List Str) × Int))) => R.ok v_due)
def T_law (v_script : (List Int)) : R Bool := ((((T_law_rows v_script (0 : Int) (6 : Int) (64 : Int)).bind fun x => (R.ok ()).bind fun xs => R.ok (x, xs)).bind fun t => T_law_net t.1).bind fun (v_net_here : (List (Str × (List Str) × (List Str) × Int × (List (List Int))))) => ((R.ok ([] : (List ((List Str) × Int)))).bind fun (v_due : (List ((List Str) × Int))) => (((T_law_all v_net_here).bind fun l => foldR (T_law_b1 v_net_here) l v_due).bind fun (v_due : (List ((List Str) × Int))) => ((T_ways v_net_here).bind fun (v_found : (List ((List Str) × Int))) => (((T_law_alike 8 ((eL (e2 (eT D.str) D.int)) v_found) ((eL (e2 (eT D.str) D.int)) v_due)).bind fun b => R.ok (!b)).bind fun b => if b then (R.ok false) else ((R.ok ()).bind fun (_ : Unit) => R.ok ()).bind fun _ => ((R.ok ([] : (List ((List Str) × Int)))).bind fun (v_found : (List ((List Str) × Int))) => ((((T_ways v_net_here).bind fun x => R.ok ((eL (e2 (eT D.str) D.int)) x)).bind fun x => ((R.ok ((eL (e2 (eT D.str) D.int)) v_due)).bind fun x => (R.ok ()).bind fun xs => R.ok (x, xs)).bind fun xs => R.ok (x, xs)).bind fun t => T_law_alike 8 t.1 t.2.1)))))))
theorem sim_law (v_script : (List Int)) : Ref (M_law [(eL D.int) v_script]) ((T_law v_script).map D.bl) := by
  unfold M_law
  exact run_x (n := 7) (p := [some ((eL D.int) v_script), none, none, none, none, none, none]) (by unfold G_law T_law; exact (sx_seq (sn_asg (i := 1) (ea := (eT (e5 D.str (eT D.str) (eT D.str) D.int (eT (eT D.int))))) (P := fun (v_net_here : (List (Str × (List Str) × (List Str) × Int × (List (List Int))))) => [some ((eL D.int) v_script), some ((eT (e5 D.str (eT D.str) (eT D.str) D.int (eT (eT D.int)))) v_net_here), none, none, none, none, none]) (by exact (se_callE (T := fun (t : ((List (Str × (List Str) × (List Str) × (List (List Int)))) × Unit)) => T_law_net t.1) (sa_consE (se_call (sa_cons (d := ((eL D.int) v_script)) (sp_var (i := 0)) (sa_cons (d := (D.int (0 : Int))) sp_c (sa_cons (d := (D.int (6 : Int))) sp_c (sa_cons (d := (D.int (64 : Int))) sp_c sa_nil)))) (sim_law_rows v_script (0 : Int) (6 : Int) (64 : Int))) sa_nilE) (fun t => sim_law_net t.1)))) (fun (v_net_here : (List (Str × (List Str) × (List Str) × Int × (List (List Int))))) => (sx_seq (sn_asg (i := 2) (ea := (eL (e2 (eT D.str) D.int))) (P := fun (v_due : (List ((List Str) × Int))) => [some ((eL D.int) v_script), some ((eT (e5 D.str (eT D.str) (eT D.str) D.int (eT (eT D.int)))) v_net_here), some ((eL (e2 (eT D.str) D.int)) v_due), none, none, none, none]) (by exact (SP.se (ea := (eL (e2 (eT D.str) D.int))) (x := ([] : (List ((List Str) × Int)))) (sp_lst sa_nil)))) (fun (v_due : (List ((List Str) × Int))) => (sx_seq (sn_for (P := fun (s1 : (List ((List Str) × Int))) => [some ((eL D.int) v_script), some ((eT (e5 D.str (eT D.str) (eT D.str) D.int (eT (eT D.int)))) v_net_here), some ((eL (e2 (eT D.str) D.int)) s1), none, none, none, none]) (Pt := fun (s1 : (List ((List Str) × Int))) (a2 : ((List (Str × Str)) × Int)) => [some ((eL D.int) v_script), some ((eT (e5 D.str (eT D.str) (eT D.str) D.int (eT (eT D.int)))) v_net_here), some ((eL (e2 (eT D.str) D.int)) s1), some ((eDS D.str) a2.1), some (D.int a2.2), none, none]) (st := (T_law_b1 v_net_here)) v_due (si_lst (ea := (e2 (eDS D.str) D.int)) (se_call (sa_cons (d := ((eT (e5 D.str (eT D.str) (eT D.str) D.int (eT (eT D.int)))) v_net_here)) (sp_var (i := 1)) sa_nil) (sim_law_all v_net_here))) (by exact And.intro rfl (And.intro rfl (And.intro rfl (trivial)))) (fun _ => (fun _ _ he => ⟨_, rfl, ((he.set 3).set 4)⟩)) (fun s1 a2 => by unfold T_law_b1; exact (sn_yield (P := fun (s1 : (List ((List Str) × Int))) => [some ((eL D.int) v_script), some ((eT (e5 D.str (eT D.str) (eT D.str) D.int (eT (eT D.int)))) v_net_here), some ((eL (e2 (eT D.str) D.int)) s1), none, none, none, none]) (sn_app (i := 2) (l := s1) (ea := (e2 (eT D.str) D.int)) (P := fun (v_due : (List ((List Str) × Int))) => [some ((eL D.int) v_script), some ((eT (e5 D.str (eT D.str) (eT D.str) D.int (eT (eT D.int)))) v_net_here), some ((eL (e2 (eT D.str) D.int)) v_due), some ((eDS D.str) a2.1), some (D.int a2.2), none, none]) rfl (se_tup (ea := (e2 (eT D.str) D.int)) (T := fun (t : ((List Str) × Int × Unit)) => (t.1, t.2.1)) (sa_consE (se_asT (ea := D.str) (se_comp (Pt := fun (a3 : (Str × (List Str) × (List Str) × Int × (List (List Int)))) => [some ((eL D.int) v_script), some ((eT (e5 D.str (eT D.str) (eT D.str) D.int (eT (eT D.int)))) v_net_here), some ((eL (e2 (eT D.str) D.int)) s1), some ((eDS D.str) a2.1), some (D.int a2.2), some ((e5 D.str (eT D.str) (eT D.str) D.int (eT (eT D.int))) a3), none]) (si_tup (ea := (e5 D.str (eT D.str) (eT D.str) D.int (eT (eT D.int)))) (SP.se (ea := (eT (e5 D.str (eT D.str) (eT D.str) D.int (eT (eT D.int))))) (x := v_net_here) (sp_var (i := 1)))) (TGs.le (p' := [some ((eL D.int) v_script), some ((eT (e5 D.str (eT D.str) (eT D.str) D.int (eT (eT D.int)))) v_net_here), some ((eL (e2 (eT D.str) D.int)) s1), some ((eDS D.str) a2.1), some (D.int a2.2), none, none]) ((show PLe [some ((eL D.int) v_script), some ((eT (e5 D.str (eT D.str) (eT D.str) D.int (eT (eT D.int)))) v_net_here), some ((eL (e2 (eT D.str) D.int)) s1), some ((eDS D.str) a2.1), some (D.int a2.2), none, none] _ by exact And.intro rfl (And.intro rfl (And.intro rfl (And.intro rfl (And.intro rfl (trivial))))))) tg_name) (fun a3 => (by exact (SCp.sc sc_true))) (fun a3 => (by exact (se_dgetP (f := D.str) (l := a2.1) (k := a3.1) key_S (sp_var (i := 3)) (sp_ix (d := D.str a3.1) rfl (sp_var (i := 5)) sp_c))))) (fun _ => rfl)) (sa_consE (SP.se (ea := D.int) (x := a2.2) (sp_var (i := 4))) sa_nilE)) (fun _ => rfl))) (fun (v_due : (List ((List Str) × Int))) => v_due) (fun (v_due : (List ((List Str) × Int))) => by exact And.intro rfl (And.intro rfl (And.intro rfl (trivial))))))) (fun (v_due : (List ((List Str) × Int))) => (sx_seq (sn_asg (i := 6) (ea := (eL (e2 (eT D.str) D.int))) (P := fun (v_found : (List ((List Str) × Int))) => [some ((eL D.int) v_script), some ((eT (e5 D.str (eT D.str) (eT D.str) D.int (eT (eT D.int)))) v_net_here), some ((eL (e2 (eT D.str) D.int)) v_due), none, none, none, some ((eL (e2 (eT D.str) D.int)) v_found)]) (by exact (se_call (sa_cons (d := ((eT (e5 D.str (eT D.str) (eT D.str) D.int (eT (eT D.int)))) v_net_here)) (sp_var (i := 1)) sa_nil) (sim_ways v_net_here)))) (fun (v_found : (List ((List Str) × Int))) => (sx_ifT (by exact (sc_notE (sc_valE (se_call (sa_cons (d := (eA ((eL (e2 (eT D.str) D.int)) v_found))) (sp_var (i := 6)) (sa_cons (d := (eA ((eL (e2 (eT D.str) D.int)) v_due))) (sp_var (i := 2)) sa_nil)) (sim_law_alike 8 ((eL (e2 (eT D.str) D.int)) v_found) ((eL (e2 (eT D.str) D.int)) v_due)))))) (sx_ret (by exact (SP.se (ea := D.bl) (x := false) sp_c))) (sn_yield (P := fun (_ : Unit) => [some ((eL D.int) v_script), some ((eT (e5 D.str (eT D.str) (eT D.str) D.int (eT (eT D.int)))) v_net_here), some ((eL (e2 (eT D.str) D.int)) v_due), none, none, none, some ((eL (e2 (eT D.str) D.int)) v_found)]) sn_nil (fun (_ : Unit) => ()) (fun (_ : Unit) => by exact And.intro rfl (And.intro rfl (And.intro rfl (And.intro rfl (trivial)))))) (fun _ => (sx_seq (sn_clear (i := 6) (l := v_found) (ea := (e2 (eT D.str) D.int)) (P := fun (v_found : (List ((List Str) × Int))) => [some ((eL D.int) v_script), some ((eT (e5 D.str (eT D.str) (eT D.str) D.int (eT (eT D.int)))) v_net_here), some ((eL (e2 (eT D.str) D.int)) v_due), none, none, none, some ((eL (e2 (eT D.str) D.int)) v_found)]) rfl) (fun (v_found : (List ((List Str) × Int))) => (sx_ret (by exact (se_callE (T := fun (t : (D × D × Unit)) => T_law_alike 8 t.1 t.2.1) (sa_consE (SE.co (eb := eA) (se_call (sa_cons (d := ((eT (e5 D.str (eT D.str) (eT D.str) D.int (eT (eT D.int)))) v_net_here)) (sp_var (i := 1)) sa_nil) (sim_ways v_net_here)) (fun x => (eL (e2 (eT D.str) D.int)) x) (fun _ => rfl)) (sa_consE (SP.se (ea := eA) (x := ((eL (e2 (eT D.str) D.int)) v_due)) (sp_var (i := 2))) sa_nilE)) (fun t => sim_law_alike 8 t.1 t.2.1))))))))))))))))) (And.intro rfl (trivial))
theorem sc_law : FnScope ["_law_script", "_law_net_here", "_law_due", "_law_choice_here", "_law_parts", "_law_entry", "_law_found"] ["_law_script"] (defScope s_law) := ⟨rfl, rfl, rfl, by decide +kernel, rfl, by decide +kernel, by decide +kernel⟩
theorem okM_law (T : Tx K mg) : FnOk P w K mg base (L2.CX P w) 10 T.f_law T.fd_law ["_law_script"] (spF K mg [.ar] .im (M_law)) := by
  refine okV (ms := [.ar]) (G' := [.ar, .im, .im, .un, .un, .un, .ow]) (g := G_law) T.F_law sc_law rfl rfl fun cdv A outer s H E hr => ?_
  have tk : Takes (cxOf (L2.CX P w) P w K mg base ["_law_script", "_law_net_here", "_law_due", "_law_choice_here", "_law_parts", "_law_entry", "_law_found"] "law" (defScope s_law) T.f_law cdv A outer s H E) (fun cls d _ H => E cls d H) := takes_of rfl rfl rfl rfl
  have hp := passes_of (X := (cxOf (L2.CX P w) P w K mg base ["_law_script", "_law_net_here", "_law_due", "_law_choice_here", "_law_parts", "_law_entry", "_law_found"] "law" (defScope s_law) T.f_law cdv A outer s H E)) rfl
  exact (vs_cons (vs_set (i := 1) (ve_call (rm := .im) (okM_law_net T) (hr.mono (by decide)) T.g_law_net T.F_law_net.kp T.b_law_net tk (va_cons (ve_frz (ve_call (rm := .fr) (okM_law_rows T) (hr.mono (by decide)) T.g_law_rows T.F_law_rows.kp T.b_law_rows tk (va_cons (ve_ar (i := 0)) (va_cons ve_int (va_cons ve_int (va_cons ve_int va_nil)))))) va_nil)) sc_law.nd) (vs_cons (vs_setOw (i := 2) (ve_lst va_nil) sc_law.nd) (vs_cons (vs_for hp rfl (vi_list (m := .im) (ve_frz (ve_call (rm := .fr) (okM_law_all T) (hr.mono (by decide)) T.g_law_all T.F_law_all.kp T.b_law_all tk (va_cons (ve_im (i := 1)) va_nil)))) (vg_tup rfl (pn_cons sc_law.nd (pn_cons sc_law.nd pn_nil))) (vs_one (vs_own (i := 2) PySem.F.slot_list_append rfl mt_append mu_app (va_cons (ve_tup (va_cons (ve_tuple T.n_tuple (ve_comp (G1 := [.ar, .im, .ow, .im, .im, .im, .un]) (own := [("_law_entry", 5)]) rfl sc_law.nd (vi_tup (m := .im) (ve_im (i := 1))) (show BlkOk ["_law_script", "_law_net_here", "_law_due", "_law_choice_here", "_law_parts", "_law_entry", "_law_found"] (defScope s_law) _ [("_law_entry", 5)] from ⟨rfl, by decide +kernel, by decide +kernel, by decide +kernel, by decide +kernel⟩) (fun _ _ _ _ _ => (vg_name (i := 5) sc_law.nd)) (fun _ _ _ _ _ => vts_nil) (fun _ _ _ _ _ => (ve_dget (hu_of hr) (ve_im (i := 3)) (ve_item (ve_im (i := 5)) ve_int))))) (va_cons (ve_im (i := 4)) va_nil))) va_nil))) (by rfl)) (vs_cons (vs_setOw (i := 6) (ve_call (rm := .fr) (okM_ways T) (hr.mono (by decide)) T.g_ways T.F_ways.kp T.b_ways tk (va_cons (ve_im (i := 1)) va_nil)) sc_law.nd) (vs_freeze 2 rfl (vs_cons (vs_if (G' := [.ar, .im, .im, .un, .un, .un, .ow]) (vt_not (vt_val (ve_call (rm := .im) (okM_law_alike T 8) (hr.mono (by decide)) T.g_law_alike T.F_law_alike.kp T.b_law_alike tk (va_cons (ve_ow (i := 6)) (va_cons (ve_im (i := 2)) va_nil))))) (vs_one (vs_ret ve_bl)) vs_nil) (vs_cons (vs_own0 (i := 6) PySem.F.slot_list_clear rfl mt_clear mu_clear) (vs_one (vs_ret (ve_call (rm := .im) (okM_law_alike T 8) (hr.mono (by decide)) T.g_law_alike T.F_law_alike.kp T.b_law_alike tk (va_cons (ve_call (rm := .fr) (okM_ways T) (hr.mono (by decide)) T.g_ways T.F_ways.kp T.b_ways tk (va_cons (ve_im (i := 1)) va_nil)) (va_cons (ve_im (i := 2)) va_nil))))))))))))
end
theorem alD_L {α : Type} {f : α → D} {k : Nat} {l : List α} (h : ∀ x ∈ l, alD k (f x) = true) : alD (k + 1) (eL f l) = true := by
  show (l.map f).all (alD k) = true
  rw [List.all_eq_true]
  intro d hd
  obtain ⟨x, hx, rfl⟩ := List.mem_map.mp hd
  exact h x hx
theorem alD_ways (l : List (List Str × Int)) : alD 7 (eL (e2 (eT D.str) D.int) l) = true := by
  refine alD_L fun w _ => ?_
  show [eT D.str w.1, D.int w.2].all (alD 5) = true
  simp only [List.all_cons, List.all_nil, Bool.and_true, Bool.and_eq_true]
  exact ⟨alD_T fun _ _ => alD_str _ _, alD_int _ _⟩
theorem law_T (ns : List Int) (hl : ns.length ≤ 63) (hb : ∀ z ∈ ns, Builtin.Int.intBits z ≤ 1048576) : T_law ns = .ok true := by
  obtain ⟨rows, e, h1, h2, gl⟩ := T_law_rows_ok ns 0 6 64 (by omega) (by omega) (by omega) (by omega) (by omega)
  have g := NG.of gl h1 (by omega)
  have ws : szF (vsF (rows.map dueE)) ≤ 4096 := g.ws
  have nl := g.len
  unfold T_law
  rw [e]
  simp only [R.bind_ok]
  rw [gl.lnet (by omega), R.bind_ok, T_law_all_eq g, R.bind_ok]
  generalize rows.map dueE = net at *
  have z := foldR_push (f := T_law_b1 net) (y := fun a => ((nsF net).map fun x => (valD a.1 x).getD "", a.2)) ((List.range (szF (vsF net))).map fun k => (((nsF net).zip (digs (vsF net) k)).reverse, partsF net (lkF (nsF net) (digs (vsF net) k)) net)) [] (by
    rw [List.length_nil, List.length_map, List.length_range, sizeLine_eq]
    omega) fun s a ha hs => by
      obtain ⟨k, hk, rfl⟩ := List.mem_map.mp ha
      unfold T_law_b1
      rw [R.bind_ok, cmpR_map (f := fun e : NE => (valD ((nsF net).zip (digs (vsF net) k)).reverse e.1).getD "") fun e he => ?_]
      · rw [R.bind_ok, fitN_ok (by rw [List.length_map, sizeLine_eq]; omega)]
        simp only [R.bind_ok]
        rw [appR_ok hs]
        show R.ok _ = R.ok _
        rw [List.map_map]
        rfl
      · have hn : e.1 ∈ nsF net := List.mem_map.mpr ⟨e, he, rfl⟩
        have q := valD_rev (c := digs (vsF net) k) g.nd (by rw [digs_len, List.length_map, List.length_map]) hn
        rw [dget_of q, q]
        rfl
  rw [z, R.bind_ok, List.nil_append, List.map_map, T_ways_eq g]
  have ed : ((List.range (szF (vsF net))).map ((fun a : List (Str × Str) × Int => ((nsF net).map fun x => (valD a.1 x).getD "", a.2)) ∘ fun k => (((nsF net).zip (digs (vsF net) k)).reverse, partsF net (lkF (nsF net) (digs (vsF net) k)) net))) = (cart (vsF net)).map fun c => (c, partsF net (lkF (nsF net) c) net) := by
    rw [cart_eq, List.map_map]
    refine List.map_congr_left fun k hk => ?_
    show ((nsF net).map fun x => (valD ((nsF net).zip (digs (vsF net) k)).reverse x).getD "", _) = (digs (vsF net) k, _)
    have dl : (digs (vsF net) k).length = (nsF net).length := by rw [digs_len, List.length_map, List.length_map]
    have q : ((nsF net).map fun x => (valD ((nsF net).zip (digs (vsF net) k)).reverse x).getD "") = digs (vsF net) k := by
      conv => rhs; rw [← map_lkF g.nd dl]
      exact List.map_congr_left fun x hx => by rw [valD_rev g.nd dl hx]; rfl
    rw [q]
  rw [ed]
  simp only [R.bind_ok]
  rw [alike_self 7 _ (alD_ways _)]
  rfl
theorem law_true (ns : List Int) (hl : ns.length ≤ 63) (hb : ∀ z ∈ ns, Builtin.Int.intBits z ≤ 1048576) : M_law [.lst (ns.map D.int)] = .ok (.bl true) := M_of_T (sim_law ns) (law_T ns hl hb)
theorem all_mk {l : PySem.W.OpenLaw} {w : World} {K : PySem.W.Frag} {h : Heap} {mg : Str → Option Value} {fa : Addr} (X : K.In h) (G : h.Ns mainGlobals mg) (hfa : mg "law" = some (.ref fa))
    {f0 : Addr} {od0 an0 : Option Addr} {sl0 : Array (Option Value)} {oc0 kV0 dc0 pm0 cd0 ct0 : Value} {f1 : Addr} {od1 an1 : Option Addr} {sl1 : Array (Option Value)} {oc1 kV1 dc1 pm1 cd1 ct1 : Value} {f2 : Addr} {od2 an2 : Option Addr} {sl2 : Array (Option Value)} {oc2 kV2 dc2 pm2 cd2 ct2 : Value} {f3 : Addr} {od3 an3 : Option Addr} {sl3 : Array (Option Value)} {oc3 kV3 dc3 pm3 cd3 ct3 : Value} {f4 : Addr} {od4 an4 : Option Addr} {sl4 : Array (Option Value)} {oc4 kV4 dc4 pm4 cd4 ct4 : Value} {f5 : Addr} {od5 an5 : Option Addr} {sl5 : Array (Option Value)} {oc5 kV5 dc5 pm5 cd5 ct5 : Value} {f6 : Addr} {od6 an6 : Option Addr} {sl6 : Array (Option Value)} {oc6 kV6 dc6 pm6 cd6 ct6 : Value} {f7 : Addr} {od7 an7 : Option Addr} {sl7 : Array (Option Value)} {oc7 kV7 dc7 pm7 cd7 ct7 : Value} {f8 : Addr} {od8 an8 : Option Addr} {sl8 : Array (Option Value)} {oc8 kV8 dc8 pm8 cd8 ct8 : Value} {f9 : Addr} {od9 an9 : Option Addr} {sl9 : Array (Option Value)} {oc9 kV9 dc9 pm9 cd9 ct9 : Value} {f10 : Addr} {od10 an10 : Option Addr} {sl10 : Array (Option Value)} {oc10 kV10 dc10 pm10 cd10 ct10 : Value} {f11 : Addr} {od11 an11 : Option Addr} {sl11 : Array (Option Value)} {oc11 kV11 dc11 pm11 cd11 ct11 : Value} {f12 : Addr} {od12 an12 : Option Addr} {sl12 : Array (Option Value)} {oc12 kV12 dc12 pm12 cd12 ct12 : Value} {f13 : Addr} {od13 an13 : Option Addr} {sl13 : Array (Option Value)} {oc13 kV13 dc13 pm13 cd13 ct13 : Value} {f14 : Addr} {od14 an14 : Option Addr} {sl14 : Array (Option Value)} {oc14 kV14 dc14 pm14 cd14 ct14 : Value} {f15 : Addr} {od15 an15 : Option Addr} {sl15 : Array (Option Value)} {oc15 kV15 dc15 pm15 cd15 ct15 : Value} {f16 : Addr} {od16 an16 : Option Addr} {sl16 : Array (Option Value)} {oc16 kV16 dc16 pm16 cd16 ct16 : Value}
    (a0 : PySem.W.nsIn K mainGlobals "names_of" = some (some (.ref f0)))
    (l0 : K.lookup f0 = some ⟨oc0, od0, .func (PySem.W.fnOf "names_of" "names_of" (defArgs s_names_of) (defBody s_names_of) (defScope s_names_of) .none kV0 dc0 pm0 an0 cd0 ct0), sl0⟩)
    (c0 : PySem.W.codeIn K cd0 "names_of" = true)
    (k0 : PySem.W.keepIn K (.ref f0) = true)
    (a1 : PySem.W.nsIn K mainGlobals "row_by" = some (some (.ref f1)))
    (l1 : K.lookup f1 = some ⟨oc1, od1, .func (PySem.W.fnOf "row_by" "row_by" (defArgs s_row_by) (defBody s_row_by) (defScope s_row_by) .none kV1 dc1 pm1 an1 cd1 ct1), sl1⟩)
    (c1 : PySem.W.codeIn K cd1 "row_by" = true)
    (k1 : PySem.W.keepIn K (.ref f1) = true)
    (a2 : PySem.W.nsIn K mainGlobals "walked_by" = some (some (.ref f2)))
    (l2 : K.lookup f2 = some ⟨oc2, od2, .func (PySem.W.fnOf "walked_by" "walked_by" (defArgs s_walked_by) (defBody s_walked_by) (defScope s_walked_by) .none kV2 dc2 pm2 an2 cd2 ct2), sl2⟩)
    (c2 : PySem.W.codeIn K cd2 "walked_by" = true)
    (k2 : PySem.W.keepIn K (.ref f2) = true)
    (a3 : PySem.W.nsIn K mainGlobals "ways" = some (some (.ref f3)))
    (l3 : K.lookup f3 = some ⟨oc3, od3, .func (PySem.W.fnOf "ways" "ways" (defArgs s_ways) (defBody s_ways) (defScope s_ways) .none kV3 dc3 pm3 an3 cd3 ct3), sl3⟩)
    (c3 : PySem.W.codeIn K cd3 "ways" = true)
    (k3 : PySem.W.keepIn K (.ref f3) = true)
    (a4 : PySem.W.nsIn K mainGlobals "_law_cell" = some (some (.ref f4)))
    (l4 : K.lookup f4 = some ⟨oc4, od4, .func (PySem.W.fnOf "_law_cell" "_law_cell" (defArgs s_law_cell) (defBody s_law_cell) (defScope s_law_cell) .none kV4 dc4 pm4 an4 cd4 ct4), sl4⟩)
    (c4 : PySem.W.codeIn K cd4 "_law_cell" = true)
    (k4 : PySem.W.keepIn K (.ref f4) = true)
    (a5 : PySem.W.nsIn K mainGlobals "_law_words" = some (some (.ref f5)))
    (l5 : K.lookup f5 = some ⟨oc5, od5, .func (PySem.W.fnOf "_law_words" "_law_words" (defArgs s_law_words) (defBody s_law_words) (defScope s_law_words) .none kV5 dc5 pm5 an5 cd5 ct5), sl5⟩)
    (c5 : PySem.W.codeIn K cd5 "_law_words" = true)
    (k5 : PySem.W.keepIn K (.ref f5) = true)
    (a6 : PySem.W.nsIn K mainGlobals "_law_cuts" = some (some (.ref f6)))
    (l6 : K.lookup f6 = some ⟨oc6, od6, .func (PySem.W.fnOf "_law_cuts" "_law_cuts" (defArgs s_law_cuts) (defBody s_law_cuts) (defScope s_law_cuts) .none kV6 dc6 pm6 an6 cd6 ct6), sl6⟩)
    (c6 : PySem.W.codeIn K cd6 "_law_cuts" = true)
    (k6 : PySem.W.keepIn K (.ref f6) = true)
    (a7 : PySem.W.nsIn K mainGlobals "_law_shape" = some (some (.ref f7)))
    (l7 : K.lookup f7 = some ⟨oc7, od7, .func (PySem.W.fnOf "_law_shape" "_law_shape" (defArgs s_law_shape) (defBody s_law_shape) (defScope s_law_shape) .none kV7 dc7 pm7 an7 cd7 ct7), sl7⟩)
    (c7 : PySem.W.codeIn K cd7 "_law_shape" = true)
    (k7 : PySem.W.keepIn K (.ref f7) = true)
    (a8 : PySem.W.nsIn K mainGlobals "_law_rows" = some (some (.ref f8)))
    (l8 : K.lookup f8 = some ⟨oc8, od8, .func (PySem.W.fnOf "_law_rows" "_law_rows" (defArgs s_law_rows) (defBody s_law_rows) (defScope s_law_rows) .none kV8 dc8 pm8 an8 cd8 ct8), sl8⟩)
    (c8 : PySem.W.codeIn K cd8 "_law_rows" = true)
    (k8 : PySem.W.keepIn K (.ref f8) = true)
    (a9 : PySem.W.nsIn K mainGlobals "_law_alike" = some (some (.ref f9)))
    (l9 : K.lookup f9 = some ⟨oc9, od9, .func (PySem.W.fnOf "_law_alike" "_law_alike" (defArgs s_law_alike) (defBody s_law_alike) (defScope s_law_alike) .none kV9 dc9 pm9 an9 cd9 ct9), sl9⟩)
    (c9 : PySem.W.codeIn K cd9 "_law_alike" = true)
    (k9 : PySem.W.keepIn K (.ref f9) = true)
    (a10 : PySem.W.nsIn K mainGlobals "_law_net" = some (some (.ref f10)))
    (l10 : K.lookup f10 = some ⟨oc10, od10, .func (PySem.W.fnOf "_law_net" "_law_net" (defArgs s_law_net) (defBody s_law_net) (defScope s_law_net) .none kV10 dc10 pm10 an10 cd10 ct10), sl10⟩)
    (c10 : PySem.W.codeIn K cd10 "_law_net" = true)
    (k10 : PySem.W.keepIn K (.ref f10) = true)
    (a11 : PySem.W.nsIn K mainGlobals "_law_values" = some (some (.ref f11)))
    (l11 : K.lookup f11 = some ⟨oc11, od11, .func (PySem.W.fnOf "_law_values" "_law_values" (defArgs s_law_values) (defBody s_law_values) (defScope s_law_values) .none kV11 dc11 pm11 an11 cd11 ct11), sl11⟩)
    (c11 : PySem.W.codeIn K cd11 "_law_values" = true)
    (k11 : PySem.W.keepIn K (.ref f11) = true)
    (a12 : PySem.W.nsIn K mainGlobals "_law_size" = some (some (.ref f12)))
    (l12 : K.lookup f12 = some ⟨oc12, od12, .func (PySem.W.fnOf "_law_size" "_law_size" (defArgs s_law_size) (defBody s_law_size) (defScope s_law_size) .none kV12 dc12 pm12 an12 cd12 ct12), sl12⟩)
    (c12 : PySem.W.codeIn K cd12 "_law_size" = true)
    (k12 : PySem.W.keepIn K (.ref f12) = true)
    (a13 : PySem.W.nsIn K mainGlobals "_law_choice" = some (some (.ref f13)))
    (l13 : K.lookup f13 = some ⟨oc13, od13, .func (PySem.W.fnOf "_law_choice" "_law_choice" (defArgs s_law_choice) (defBody s_law_choice) (defScope s_law_choice) .none kV13 dc13 pm13 an13 cd13 ct13), sl13⟩)
    (c13 : PySem.W.codeIn K cd13 "_law_choice" = true)
    (k13 : PySem.W.keepIn K (.ref f13) = true)
    (a14 : PySem.W.nsIn K mainGlobals "_law_part" = some (some (.ref f14)))
    (l14 : K.lookup f14 = some ⟨oc14, od14, .func (PySem.W.fnOf "_law_part" "_law_part" (defArgs s_law_part) (defBody s_law_part) (defScope s_law_part) .none kV14 dc14 pm14 an14 cd14 ct14), sl14⟩)
    (c14 : PySem.W.codeIn K cd14 "_law_part" = true)
    (k14 : PySem.W.keepIn K (.ref f14) = true)
    (a15 : PySem.W.nsIn K mainGlobals "_law_all" = some (some (.ref f15)))
    (l15 : K.lookup f15 = some ⟨oc15, od15, .func (PySem.W.fnOf "_law_all" "_law_all" (defArgs s_law_all) (defBody s_law_all) (defScope s_law_all) .none kV15 dc15 pm15 an15 cd15 ct15), sl15⟩)
    (c15 : PySem.W.codeIn K cd15 "_law_all" = true)
    (k15 : PySem.W.keepIn K (.ref f15) = true)
    (a16 : PySem.W.nsIn K mainGlobals "law" = some (some (.ref f16)))
    (l16 : K.lookup f16 = some ⟨oc16, od16, .func (PySem.W.fnOf "law" "law" (defArgs s_law) (defBody s_law) (defScope s_law) .none kV16 dc16 pm16 an16 cd16 ct16), sl16⟩)
    (c16 : PySem.W.codeIn K cd16 "law" = true)
    (k16 : PySem.W.keepIn K (.ref f16) = true)
    (z_bool : PySem.W.nsIn K mainGlobals "bool" = some none)
    (z_int : PySem.W.nsIn K mainGlobals "int" = some none)
    (z_isinstance : PySem.W.nsIn K mainGlobals "isinstance" = some none)
    (z_len : PySem.W.nsIn K mainGlobals "len" = some none)
    (z_list : PySem.W.nsIn K mainGlobals "list" = some none)
    (z_max : PySem.W.nsIn K mainGlobals "max" = some none)
    (z_min : PySem.W.nsIn K mainGlobals "min" = some none)
    (z_range : PySem.W.nsIn K mainGlobals "range" = some none)
    (z_reversed : PySem.W.nsIn K mainGlobals "reversed" = some none)
    (z_str : PySem.W.nsIn K mainGlobals "str" = some none)
    (z_sum : PySem.W.nsIn K mainGlobals "sum" = some none)
    (z_tuple : PySem.W.nsIn K mainGlobals "tuple" = some none)
    (z_zip : PySem.W.nsIn K mainGlobals "zip" = some none) :
    ∃ fd : FuncData, (∀ (s : Shared) (v : Value), BindsTo s fd ⟨[v], []⟩ [("_law_script", v)]) ∧ ∀ base : Heap, K.In base → base.Ns mainGlobals mg → FnOk l.prog w K mg base (L2.CX l.prog w) 10 fa fd ["_law_script"] (spLaw K) := by
  have e := hfa.symm.trans (PySem.W.mg_of X G a16)
  cases e
  have F0 := fun_mk (st := s_names_of) l0 c0 k0
  have B0 := F0.binds (ps := ["net"]) fun _ _ _ _ _ _ us hl => match us, hl with | [_], _ => rfl
  have F1 := fun_mk (st := s_row_by) l1 c1 k1
  have B1 := F1.binds (ps := ["net", "entry", "way"]) fun _ _ _ _ _ _ us hl => match us, hl with | [_, _, _], _ => rfl
  have F2 := fun_mk (st := s_walked_by) l2 c2 k2
  have B2 := F2.binds (ps := ["net", "setting", "more"]) fun _ _ _ _ _ _ us hl => match us, hl with | [_, _, _], _ => rfl
  have F3 := fun_mk (st := s_ways) l3 c3 k3
  have B3 := F3.binds (ps := ["net"]) fun _ _ _ _ _ _ us hl => match us, hl with | [_], _ => rfl
  have F4 := fun_mk (st := s_law_cell) l4 c4 k4
  have B4 := F4.binds (ps := ["_law_script", "_law_k"]) fun _ _ _ _ _ _ us hl => match us, hl with | [_, _], _ => rfl
  have F5 := fun_mk (st := s_law_words) l5 c5 k5
  have B5 := F5.binds (ps := ["_law_cell_here", "_law_many"]) fun _ _ _ _ _ _ us hl => match us, hl with | [_, _], _ => rfl
  have F6 := fun_mk (st := s_law_cuts) l6 c6 k6
  have B6 := F6.binds (ps := ["_law_cell_here", "_law_size_here", "_law_many"]) fun _ _ _ _ _ _ us hl => match us, hl with | [_, _, _], _ => rfl
  have F7 := fun_mk (st := s_law_shape) l7 c7 k7
  have B7 := F7.binds (ps := ["_law_script", "_law_at", "_law_k", "_law_names", "_law_room"]) fun _ _ _ _ _ _ us hl => match us, hl with | [_, _, _, _, _], _ => rfl
  have F8 := fun_mk (st := s_law_rows) l8 c8 k8
  have B8 := F8.binds (ps := ["_law_script", "_law_at", "_law_most", "_law_top"]) fun _ _ _ _ _ _ us hl => match us, hl with | [_, _, _, _], _ => rfl
  have F9 := fun_mk (st := s_law_alike) l9 c9 k9
  have B9 := F9.binds (ps := ["_law_found", "_law_due"]) fun _ _ _ _ _ _ us hl => match us, hl with | [_, _], _ => rfl
  have F10 := fun_mk (st := s_law_net) l10 c10 k10
  have B10 := F10.binds (ps := ["_law_rows_here"]) fun _ _ _ _ _ _ us hl => match us, hl with | [_], _ => rfl
  have F11 := fun_mk (st := s_law_values) l11 c11 k11
  have B11 := F11.binds (ps := ["_law_net_here", "_law_name"]) fun _ _ _ _ _ _ us hl => match us, hl with | [_, _], _ => rfl
  have F12 := fun_mk (st := s_law_size) l12 c12 k12
  have B12 := F12.binds (ps := ["_law_net_here", "_law_names"]) fun _ _ _ _ _ _ us hl => match us, hl with | [_, _], _ => rfl
  have F13 := fun_mk (st := s_law_choice) l13 c13 k13
  have B13 := F13.binds (ps := ["_law_net_here", "_law_names", "_law_k"]) fun _ _ _ _ _ _ us hl => match us, hl with | [_, _, _], _ => rfl
  have F14 := fun_mk (st := s_law_part) l14 c14 k14
  have B14 := F14.binds (ps := ["_law_net_here", "_law_entry", "_law_choice_here"]) fun _ _ _ _ _ _ us hl => match us, hl with | [_, _, _], _ => rfl
  have F15 := fun_mk (st := s_law_all) l15 c15 k15
  have B15 := F15.binds (ps := ["_law_net_here"]) fun _ _ _ _ _ _ us hl => match us, hl with | [_], _ => rfl
  have F16 := fun_mk (st := s_law) l16 c16 k16
  have B16 := F16.binds (ps := ["_law_script"]) fun _ _ _ _ _ _ us hl => match us, hl with | [_], _ => rfl
  let T : Tx K mg := { f_names_of := f0, fd_names_of := _, F_names_of := F0, g_names_of := PySem.W.mg_of X G a0, b_names_of := B0, f_row_by := f1, fd_row_by := _, F_row_by := F1, g_row_by := PySem.W.mg_of X G a1, b_row_by := B1, f_walked_by := f2, fd_walked_by := _, F_walked_by := F2, g_walked_by := PySem.W.mg_of X G a2, b_walked_by := B2, f_ways := f3, fd_ways := _, F_ways := F3, g_ways := PySem.W.mg_of X G a3, b_ways := B3, f_law_cell := f4, fd_law_cell := _, F_law_cell := F4, g_law_cell := PySem.W.mg_of X G a4, b_law_cell := B4, f_law_words := f5, fd_law_words := _, F_law_words := F5, g_law_words := PySem.W.mg_of X G a5, b_law_words := B5, f_law_cuts := f6, fd_law_cuts := _, F_law_cuts := F6, g_law_cuts := PySem.W.mg_of X G a6, b_law_cuts := B6, f_law_shape := f7, fd_law_shape := _, F_law_shape := F7, g_law_shape := PySem.W.mg_of X G a7, b_law_shape := B7, f_law_rows := f8, fd_law_rows := _, F_law_rows := F8, g_law_rows := PySem.W.mg_of X G a8, b_law_rows := B8, f_law_alike := f9, fd_law_alike := _, F_law_alike := F9, g_law_alike := PySem.W.mg_of X G a9, b_law_alike := B9, f_law_net := f10, fd_law_net := _, F_law_net := F10, g_law_net := PySem.W.mg_of X G a10, b_law_net := B10, f_law_values := f11, fd_law_values := _, F_law_values := F11, g_law_values := PySem.W.mg_of X G a11, b_law_values := B11, f_law_size := f12, fd_law_size := _, F_law_size := F12, g_law_size := PySem.W.mg_of X G a12, b_law_size := B12, f_law_choice := f13, fd_law_choice := _, F_law_choice := F13, g_law_choice := PySem.W.mg_of X G a13, b_law_choice := B13, f_law_part := f14, fd_law_part := _, F_law_part := F14, g_law_part := PySem.W.mg_of X G a14, b_law_part := B14, f_law_all := f15, fd_law_all := _, F_law_all := F15, g_law_all := PySem.W.mg_of X G a15, b_law_all := B15, f_law := fa, fd_law := _, F_law := F16, g_law := PySem.W.mg_of X G a16, b_law := B16, n_bool := PySem.W.mg_none_of X G z_bool, n_int := PySem.W.mg_none_of X G z_int, n_isinstance := PySem.W.mg_none_of X G z_isinstance, n_len := PySem.W.mg_none_of X G z_len, n_list := PySem.W.mg_none_of X G z_list, n_max := PySem.W.mg_none_of X G z_max, n_min := PySem.W.mg_none_of X G z_min, n_range := PySem.W.mg_none_of X G z_range, n_reversed := PySem.W.mg_none_of X G z_reversed, n_str := PySem.W.mg_none_of X G z_str, n_sum := PySem.W.mg_none_of X G z_sum, n_tuple := PySem.W.mg_none_of X G z_tuple, n_zip := PySem.W.mg_none_of X G z_zip }
  exact ⟨_, fun s v => .of_eq rfl, fun base _ _ => law_imp law_true (okM_law T)⟩
end OD
open PySem PySem.W PyProof.Rows
set_option maxHeartbeats 0 in
theorem PySem.Challenge.cw_oddsnet_k20_ways_in_counting_order_holds : PySem.Challenge.rw_oddsnet_k20_ways_in_counting_order.Holds := by
  w_on; o_law; k_head; (case hw => w_witness2)
  k_fill
  refine L2.walk_ofB (l := PySem.Challenge.rw_oddsnet_k20_ways_in_counting_order) (n := 63) (k := 10) (x := "_law_script") (CX := fun w => L2.CX PySem.Challenge.rw_oddsnet_k20_ways_in_counting_order.prog w) (sp := fun w => L2.VL.spLaw _) rfl (by decide) rfl ⟨rfl, by decide, by decide⟩ (fun w h Y => PySem.W.kIn_of Y) ?F (fun w H a ns hl hb hO hS => ⟨a, ns, rfl, hl, hb, hS, fun _ => rfl⟩) (fun w H s e s' h => L2.VL.cx_false h)
  case F =>
    intro w mg fa h KX G hmg
    refine' OD.all_mk KX G hmg ?a0 ?l0 ?c0 ?k0 ?a1 ?l1 ?c1 ?k1 ?a2 ?l2 ?c2 ?k2 ?a3 ?l3 ?c3 ?k3 ?a4 ?l4 ?c4 ?k4 ?a5 ?l5 ?c5 ?k5 ?a6 ?l6 ?c6 ?k6 ?a7 ?l7 ?c7 ?k7 ?a8 ?l8 ?c8 ?k8 ?a9 ?l9 ?c9 ?k9 ?a10 ?l10 ?c10 ?k10 ?a11 ?l11 ?c11 ?k11 ?a12 ?l12 ?c12 ?k12 ?a13 ?l13 ?c13 ?k13 ?a14 ?l14 ?c14 ?k14 ?a15 ?l15 ?c15 ?k15 ?a16 ?l16 ?c16 ?k16 ?z_bool ?z_int ?z_isinstance ?z_len ?z_list ?z_max ?z_min ?z_range ?z_reversed ?z_str ?z_sum ?z_tuple ?z_zip
    (case a0 => k_is); (case l0 => k_is); (case c0 => k_is); (case k0 => k_is); (case a1 => k_is); (case l1 => k_is); (case c1 => k_is); (case k1 => k_is)
    (case a2 => k_is); (case l2 => k_is); (case c2 => k_is); (case k2 => k_is); (case a3 => k_is); (case l3 => k_is); (case c3 => k_is); (case k3 => k_is)
    (case a4 => k_is); (case l4 => k_is); (case c4 => k_is); (case k4 => k_is); (case a5 => k_is); (case l5 => k_is); (case c5 => k_is); (case k5 => k_is)
    (case a6 => k_is); (case l6 => k_is); (case c6 => k_is); (case k6 => k_is); (case a7 => k_is); (case l7 => k_is); (case c7 => k_is); (case k7 => k_is)
    (case a8 => k_is); (case l8 => k_is); (case c8 => k_is); (case k8 => k_is); (case a9 => k_is); (case l9 => k_is); (case c9 => k_is); (case k9 => k_is)
    (case a10 => k_is); (case l10 => k_is); (case c10 => k_is); (case k10 => k_is); (case a11 => k_is); (case l11 => k_is); (case c11 => k_is); (case k11 => k_is)
    (case a12 => k_is); (case l12 => k_is); (case c12 => k_is); (case k12 => k_is); (case a13 => k_is); (case l13 => k_is); (case c13 => k_is); (case k13 => k_is)
    (case a14 => k_is); (case l14 => k_is); (case c14 => k_is); (case k14 => k_is); (case a15 => k_is); (case l15 => k_is); (case c15 => k_is); (case k15 => k_is)
    (case a16 => k_is); (case l16 => k_is); (case c16 => k_is); (case k16 => k_is); (case z_bool => k_is); (case z_int => k_is); (case z_isinstance => k_is); (case z_len => k_is)
    (case z_list => k_is); (case z_max => k_is); (case z_min => k_is); (case z_range => k_is); (case z_reversed => k_is); (case z_str => k_is); (case z_sum => k_is); (case z_tuple => k_is)
    (case z_zip => k_is)
