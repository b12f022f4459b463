import PyProof.Rows.All
import Wide.All
import OpenK.AllK
import Wide.FinOn
import HandS.ForMost
import HandS.Dict
import HandS.Iter
import HandS.More
import KE.KDictWalk
import KE.KDictCopyH
import PyProof.EqAt
import PyProof.EqKinds
import PyProof.TupleCall
import HandS.ForExc
import HandS.Walk
import HandS.Wide
import HandS.CallSlots
import HandS.WideBits
import HandS.TupAny
import HandS.IsInst
import HandS.Strs
import HandS.EndBits
import HandS.Zip
import HandS.Rev
import HandS.RevRange
import HandS.Style
import HandS.Replace
import HandS.ExcIs
import HandS.HotCalls
import PyProof.StrOps2
import KE.KDictZip
import HandS.DictComp
import KE.KEqNest
import HandS.Sort
import KE.KTupSum
import HandS.Finally
import HandS.SetKeys
import HandS.Defaults
import HandS.SortKw
import KE.DataMinMax
import HandS.CallLocal
import HandS.Text
import HandS.Deep
import HandS.DeepEq
import PyProof.NeKinds
import PyProof.StrLawsChain
import PyProof.StrLawsTight
import PyProof.StrLaws
import KE.IntTextLaws
import KE.KIntText
import PyProof.Rows.StrItems
import PySem.Challenge.RW_oddsnet_k11_a_net_made
set_option Elab.async false
set_option linter.all false
set_option maxRecDepth 100000
set_option maxHeartbeats 4000000
namespace L2.TD
open PySem PySem.Spec PyProof.Rows L2
abbrev KA := List Leaf × Addr × V
abbrev KR (p : KA) (q : List Leaf × Addr × Value) : Prop := p.1 = q.1 ∧ p.2.1 = q.2.1 ∧ RelV p.2.2 q.2.2
abbrev tk (P : Program) (w : World) : HeapKind P w (List Leaf) := tupleKind (leafKind P w)
def TdP (P : Program) (w : World) (a : Addr) (kas : List KA) (h : Heap) : Prop :=
  kas.length ≤ sizeLine ∧ (a == sysModules) = false ∧ ∃ xs : List (List Leaf × Addr × Value), Paired KR kas xs ∧ ∃ o es ep, h.get? a = some o ∧ o.ExactDict ∧ o.data = .dict es ep ∧ es.toList = xs.map (entryOfKey (tk P w)) ∧ (xs.map (·.1)).Nodup
def tdO (P : Program) (w : World) (a : Addr) (kas : List KA) : HO := .ext (TdP P w a kas)
end L2.TD
set_option Elab.async false
set_option linter.all false
set_option maxRecDepth 100000
set_option maxHeartbeats 4000000
namespace L2.VL
open PySem PySem.Spec PyProof.Rows
structure KFr where
  fr : PySem.W.Frag
  P : Program
  w : World
instance : Coe KFr PySem.W.Frag := ⟨KFr.fr⟩
abbrev kf (X : Cx) : KFr := ⟨X.K, X.prog, X.w⟩
inductive LD where
  | non | bl (b : Bool) | int (i : Int) | str (x : Str)
  deriving DecidableEq
def LD.v : LD → V
  | .non => .non
  | .bl b => .bl b
  | .int i => .int i
  | .str x => .str x
def LD.lf : LD → Leaf
  | .non => .none
  | .bl b => .num (if b = true then 1 else 0)
  | .int i => .num i
  | .str x => .text x
inductive D where
  | non | bl (b : Bool) | int (i : Int) | str (x : Str) | tup (ds : List D) | lst (ds : List D) | dic (kvs : List (Key × D)) | tdc (kvs : List (List LD × D))
inductive R (α : Type) where
  | ok (a : α) | ex (c : Str) | bad
def R.bind {α β : Type} : R α → (α → R β) → R β
  | .ok a, f => f a
  | .ex c, _ => .ex c
  | .bad, _ => .bad
@[simp] theorem R.bind_ok {α β : Type} (a : α) (f : α → R β) : (R.ok a).bind f = f a := rfl
@[simp] theorem R.bind_ex {α β : Type} (c : Str) (f : α → R β) : (R.ex c : R α).bind f = .ex c := rfl
@[simp] theorem R.bind_bad {α β : Type} (f : α → R β) : (R.bad : R α).bind f = .bad := rfl

def TupAt (B : Hp) (a : Addr) (vs : List V) : Prop := ∃ o : Obj, B a = some (.frz o (.tup vs)) ∧ o.dict = none
theorem TupAt.rd {B : Hp} {a : Addr} {vs : List V} (h : TupAt B a vs) : Rd B a (.tup vs) := by
  obtain ⟨o, h, _⟩ := h
  exact .inr ⟨o, h⟩
theorem TupAt.mono {B B' : Hp} {a : Addr} {vs : List V} (h : TupAt B a vs) (s : Same B B') : TupAt B' a vs := by
  obtain ⟨o, h, hd⟩ := h
  exact ⟨o, s _ _ h, hd⟩
abbrev tupO (us : List Value) : Obj := { cls := .type "tuple", data := .seq us.toArray }
theorem inv_tup {X : Cx} {pins : List (Addr × Obj)} {sg : St} {H : Hp} {s : Shared} {vs : List V} {us : List Value} (I : Inv X pins sg H s) (r : Vals vs us) (hz : vs.length ≤ sizeLine) :
    Inv X pins sg (upd H s.heap.objs.size (.frz (tupO us) (.tup vs))) { s with heap := s.heap.push (tupO us) } :=
  I.laid (t' := s.toks) (fun _ _ q => Heap.get?_push_of_some _ q) (Nat.le_refl _) ⟨Heap.get?_push_size _ rfl, hz, us, r, IsTup.new _ _⟩
def tTupF (t : TA) : TE := fun sg H Q => t sg H fun xs H1 => xs.length ≤ sizeLine ∧ ∀ p (o : Obj), H1 p = none → o.dict = none → Q (.ref p) (upd H1 p (.frz o (.tup xs)))
theorem pe_tupF {X : Cx} {es : List Expr} {t : TA} {pos : Pos} {x1} (h : PA X es t) : PE X (.Tuple es x1 pos) (tTupF t) :=
  ⟨fun pins s sg H Q I hq => wpAny_Tuple_spliced (thn (h.run pos pins s sg H _ I hq) fun us s1 hh => by
    obtain ⟨xs, H1, I1, r, z, q⟩ := hh
    exact ⟨by rw [← r.length]; exact z, .ref s1.heap.objs.size, _, inv_tup I1 r z, rfl, q _ _ (I1.hok.fresh (Nat.le_refl _)) rfl⟩)⟩
theorem call_tupF {X : Cx} : CallR X (.type "tuple") (fun xs H Q => ∃ p ys, xs = [.ref p] ∧ ((SqL (kf X) H p ys ∧ ∀ l (o : Obj), H l = none → o.dict = none → Q (.ref l) (upd H l (.frz o (.tup ys)))) ∨ (SqT (kf X) H p ys ∧ Q (.ref p) H))) := by
  intro pins s sg H xs us Q I rs hh
  obtain ⟨p, ys, rfl, hh⟩ := hh
  obtain ⟨u, rfl, ru⟩ := vals1 rs
  cases ru
  rcases hh with ⟨hq, q⟩ | ⟨hq, q⟩
  · obtain ⟨its, rv, pl, hz⟩ := I.list hq
    have hn := rv.length
    refine call_tuple_list pl.isList (fun g' kp => ?_) (by simp only [List.size_toArray] <;> omega)
    have J := I.kept (h' := g') (t' := s.toks) kp
    exact ⟨.ref g'.objs.size, _, inv_tup J rv hz, rfl, q _ _ (J.hok.fresh (Nat.le_refl _)) rfl⟩
  · obtain ⟨its, _, pl, _⟩ := I.tuple hq
    exact call_tuple_same pl ⟨.ref p, H, I, rfl, q⟩
def rCatF (K : KFr) : R2 := fun x y H Q => ∃ a b xs ys, x = .ref a ∧ y = .ref b ∧ SqT K H a xs ∧ SqT K H b ys ∧ xs.length + ys.length ≤ sizeLine ∧
  (xs = [] → Q (.ref b) H) ∧ (xs ≠ [] → ys = [] → Q (.ref a) H) ∧ (xs ≠ [] → ys ≠ [] → ∀ p (o : Obj), H p = none → o.dict = none → Q (.ref p) (upd H p (.frz o (.tup (xs ++ ys)))))
theorem op_catF {X : Cx} : OpR X (binaryOp .Add) (rCatF (kf X)) := by
  intro pins s sg H x y v u Q I rx ry hh
  obtain ⟨a, b, xs, ys, rfl, rfl, ha, hb, hz, q0, q1, q2⟩ := hh
  cases rx
  cases ry
  obtain ⟨ia, ra, pa, _⟩ := I.tuple ha
  obtain ⟨ib, rb, pb, _⟩ := I.tuple hb
  by_cases hx : xs = []
  · subst hx
    cases ra
    exact cat_tup0 pa pb ⟨.ref b, H, I, rfl, q0 rfl⟩
  · refine HT.cat_tup pa pb (fun z => hx (ra.nil_iff.mp z)) (fun z => ⟨.ref a, H, I, rfl, q1 hx (rb.nil_iff.mp z)⟩) (fun z => ?_) (by rw [← ra.length, ← rb.length]; exact hz)
    exact ⟨.ref s.heap.objs.size, _, inv_tup I (ra.append rb) (by rw [List.length_append]; exact hz), rfl, q2 hx (fun w => z (rb.nil_iff.mpr w)) _ _ (I.hok.fresh (Nat.le_refl _)) rfl⟩
mutual
inductive Rep (c : Bool) (K : KFr) (B : Hp) : V → D → Prop
  | non : Rep c K B .non .non
  | bl (b : Bool) : Rep c K B (.bl b) (.bl b)
  | int (i : Int) : Rep c K B (.int i) (.int i)
  | str (x : Str) : Rep c K B (.str x) (.str x)
  | lst {a : Addr} {vs : List V} {ds : List D} : Rd B a (.lst vs) → Reps c K B vs ds → Rep c K B (.ref a) (.lst ds)
  | kls {a : Addr} {vs : List V} {ds : List D} : c = true → SqL K B a vs → Reps c K B vs ds → Rep c K B (.ref a) (.lst ds)
  | tup {a : Addr} {vs : List V} {ds : List D} : TupAt B a vs → Reps c K B vs ds → Rep c K B (.ref a) (.tup ds)
  | dic {a : Addr} {kvs : List (Key × V)} {kds : List (Key × D)} : (∃ o, B a = some (.frz o (.dK kvs))) → RepKs c K B kvs kds → Rep c K B (.ref a) (.dic kds)
  | dko {a : Addr} {kvs : List (Key × V)} {kds : List (Key × D)} : c = true → Rd B a (.dK kvs) → RepKs c K B kvs kds → Rep c K B (.ref a) (.dic kds)
  | tdc {a : Addr} {kas : List L2.TD.KA} {kds : List (List LD × D)} : (∃ o, B a = some (.frz o (L2.TD.tdO K.P K.w a kas))) → RepTk c K B kas kds → Rep c K B (.ref a) (.tdc kds)
  | tko {a : Addr} {kas : List L2.TD.KA} {kds : List (List LD × D)} : c = true → Rd B a (L2.TD.tdO K.P K.w a kas) → RepTk c K B kas kds → Rep c K B (.ref a) (.tdc kds)
inductive Reps (c : Bool) (K : KFr) (B : Hp) : List V → List D → Prop
  | nil : Reps c K B [] []
  | cons {v : V} {vs : List V} {d : D} {ds : List D} : Rep c K B v d → Reps c K B vs ds → Reps c K B (v :: vs) (d :: ds)
inductive RepKs (c : Bool) (K : KFr) (B : Hp) : List (Key × V) → List (Key × D) → Prop
  | nil : RepKs c K B [] []
  | cons {k : Key} {v : V} {kvs : List (Key × V)} {d : D} {kds : List (Key × D)} : Rep c K B v d → RepKs c K B kvs kds → RepKs c K B ((k, v) :: kvs) ((k, d) :: kds)
inductive RepTk (c : Bool) (K : KFr) (B : Hp) : List L2.TD.KA → List (List LD × D) → Prop
  | nil : RepTk c K B [] []
  | cons {b : Addr} {k : List LD} {v : V} {kas : List L2.TD.KA} {d : D} {kds : List (List LD × D)} : TupAt B b (k.map LD.v) → Rep c K B v d → RepTk c K B kas kds → RepTk c K B ((k.map LD.lf, b, v) :: kas) ((k, d) :: kds)
end
theorem same_rd {H H' : Hp} {a : Addr} {u : HO} (e : Same H H') (h : Rd H a u) : Rd H' a u := by
  rcases h with h | ⟨o, h⟩
  · exact .inl (e _ _ h)
  · exact .inr ⟨o, e _ _ h⟩
mutual
theorem Rep.mono {c : Bool} {K : KFr} {B B' : Hp} (s : Same B B') : ∀ {v : V} {d : D}, Rep c K B v d → Rep c K B' v d
  | _, _, .non => .non
  | _, _, .bl b => .bl b
  | _, _, .int i => .int i
  | _, _, .str x => .str x
  | _, _, .lst h r => .lst (same_rd s h) (Reps.mono s r)
  | _, _, .kls hc h r => .kls hc (s.seq h) (Reps.mono s r)
  | _, _, .tup h r => .tup (h.mono s) (Reps.mono s r)
  | _, _, .dic h r => .dic (let ⟨o, z⟩ := h; ⟨o, s _ _ z⟩) (RepKs.mono s r)
  | _, _, .dko hc h r => .dko hc (same_rd s h) (RepKs.mono s r)
  | _, _, .tdc h r => .tdc (let ⟨o, z⟩ := h; ⟨o, s _ _ z⟩) (RepTk.mono s r)
  | _, _, .tko hc h r => .tko hc (same_rd s h) (RepTk.mono s r)
theorem Reps.mono {c : Bool} {K : KFr} {B B' : Hp} (s : Same B B') : ∀ {vs : List V} {ds : List D}, Reps c K B vs ds → Reps c K B' vs ds
  | _, _, .nil => .nil
  | _, _, .cons h r => .cons (Rep.mono s h) (Reps.mono s r)
theorem RepKs.mono {c : Bool} {K : KFr} {B B' : Hp} (s : Same B B') : ∀ {vs : List (Key × V)} {ds : List (Key × D)}, RepKs c K B vs ds → RepKs c K B' vs ds
  | _, _, .nil => .nil
  | _, _, .cons h r => .cons (Rep.mono s h) (RepKs.mono s r)
theorem RepTk.mono {c : Bool} {K : KFr} {B B' : Hp} (s : Same B B') : ∀ {vs : List L2.TD.KA} {ds : List (List LD × D)}, RepTk c K B vs ds → RepTk c K B' vs ds
  | _, _, .nil => .nil
  | _, _, .cons t h r => .cons (t.mono s) (Rep.mono s h) (RepTk.mono s r)
end
mutual
theorem Rep.wide {K : KFr} {B : Hp} : ∀ {v : V} {d : D}, Rep false K B v d → Rep true K B v d
  | _, _, .non => .non
  | _, _, .bl b => .bl b
  | _, _, .int i => .int i
  | _, _, .str x => .str x
  | _, _, .lst h r => .lst h (Reps.wide r)
  | _, _, .tup h r => .tup h (Reps.wide r)
  | _, _, .dic h r => .dic h (RepKs.wide r)
  | _, _, .tdc h r => .tdc h (RepTk.wide r)
theorem Reps.wide {K : KFr} {B : Hp} : ∀ {vs : List V} {ds : List D}, Reps false K B vs ds → Reps true K B vs ds
  | _, _, .nil => .nil
  | _, _, .cons h r => .cons (Rep.wide h) (Reps.wide r)
theorem RepKs.wide {K : KFr} {B : Hp} : ∀ {vs : List (Key × V)} {ds : List (Key × D)}, RepKs false K B vs ds → RepKs true K B vs ds
  | _, _, .nil => .nil
  | _, _, .cons h r => .cons (Rep.wide h) (RepKs.wide r)
theorem RepTk.wide {K : KFr} {B : Hp} : ∀ {vs : List L2.TD.KA} {ds : List (List LD × D)}, RepTk false K B vs ds → RepTk true K B vs ds
  | _, _, .nil => .nil
  | _, _, .cons t h r => .cons t (Rep.wide h) (RepTk.wide r)
end
theorem Rep.sq {c : Bool} {K : KFr} {B : Hp} {v : V} {ds : List D} (r : Rep c K B v (.lst ds)) : ∃ a vs, v = .ref a ∧ SqL K B a vs ∧ Reps c K B vs ds := by
  cases r with
  | lst h q => exact ⟨_, _, rfl, .inl h, q⟩
  | kls _ h q => exact ⟨_, _, rfl, h, q⟩
theorem Rep.rd {K : KFr} {B : Hp} {v : V} {ds : List D} (r : Rep false K B v (.lst ds)) : ∃ a vs, v = .ref a ∧ Rd B a (.lst vs) ∧ Reps false K B vs ds := by
  cases r with
  | lst h q => exact ⟨_, _, rfl, h, q⟩
  | kls z _ _ => cases z
section
variable {c : Bool} {K : KFr} {B B' : Hp}
theorem Reps.length : ∀ {vs : List V} {ds : List D}, Reps c K B vs ds → vs.length = ds.length
  | _, _, .nil => rfl
  | _, _, .cons _ r => congrArg (· + 1) r.length
theorem Reps.get : ∀ {vs : List V} {ds : List D} {i : Nat} {d : D}, Reps c K B vs ds → ds[i]? = some d → ∃ v, vs[i]? = some v ∧ Rep c K B v d
  | _, _, _, _, .nil, h => by simp at h
  | _, _, 0, _, .cons q _, h => by
    have e := Option.some.inj (show some _ = some _ from h)
    subst e
    exact ⟨_, rfl, q⟩
  | _, _, i + 1, _, .cons _ r, h => Reps.get (i := i) r (by simpa using h)
theorem Reps.append : ∀ {vs us : List V} {ds es : List D}, Reps c K B vs ds → Reps c K B us es → Reps c K B (vs ++ us) (ds ++ es)
  | _, _, _, _, .nil, s => s
  | _, _, _, _, .cons q r, s => .cons q (Reps.append r s)
theorem Reps.take : ∀ {vs : List V} {ds : List D} (n : Nat), Reps c K B vs ds → Reps c K B (vs.take n) (ds.take n)
  | _, _, 0, _ => .nil
  | _, _, _ + 1, .nil => .nil
  | _, _, n + 1, .cons q r => .cons q (Reps.take n r)
theorem Reps.drop : ∀ {vs : List V} {ds : List D} (n : Nat), Reps c K B vs ds → Reps c K B (vs.drop n) (ds.drop n)
  | _, _, 0, r => r
  | _, _, _ + 1, .nil => .nil
  | _, _, n + 1, .cons _ r => Reps.drop n r
end
structure Ext (B H B' H' : Hp) : Prop where
  b : Same B B'
  h : Same H H'
  s : Same B' H'
  n : ∀ p, H p ≠ none → B' p = B p
theorem Ext.refl {B H : Hp} (s : Same B H) : Ext B H B H := ⟨Same.refl _, Same.refl _, s, fun _ _ => rfl⟩
theorem Ext.trans {B H B1 H1 B2 H2 : Hp} (x : Ext B H B1 H1) (y : Ext B1 H1 B2 H2) : Ext B H B2 H2 :=
  ⟨x.b.trans y.b, x.h.trans y.h, y.s, fun p hp => by
    have e1 := x.n p hp
    have e2 : H1 p ≠ none := by
      cases e : H p with
      | none => exact absurd e hp
      | some o => rw [x.h p o e]; exact fun z => by cases z
    rw [y.n p e2, e1]⟩
theorem same_upd {H : Hp} {p : Addr} {o : HO} (h : H p = none) : Same H (upd H p o) := fun b x e => by
  rw [upd_ne (ne_of_none e h)]
  exact e
theorem same_upd2 {B H : Hp} {p : Addr} {o : HO} (s : Same B H) : Same (upd B p o) (upd H p o) := fun b x e => by
  by_cases hb : b = p
  · subst hb
    rw [upd_same] at e ⊢
    exact e
  · rw [upd_ne hb] at e ⊢
    exact s b x e
theorem same_updH {B H : Hp} {p : Addr} {o : HO} (s : Same B H) (h : B p = none) : Same B (upd H p o) := fun b x e => by
  rw [upd_ne (ne_of_none e h)]
  exact s b x e
theorem Ext.newB {B H : Hp} {p : Addr} {o : HO} (s : Same B H) (h : H p = none) : Ext B H (upd B p o) (upd H p o) :=
  ⟨same_upd (s.free h), same_upd h, same_upd2 s, fun q hq => by
    rw [upd_ne]
    intro z
    subst z
    exact hq h⟩
theorem Ext.newH {B H : Hp} {p : Addr} {o : HO} (s : Same B H) (h : H p = none) : Ext B H B (upd H p o) :=
  ⟨Same.refl _, same_upd h, same_updH s (s.free h), fun q hq => rfl⟩

def Own (K : KFr) (B H : Hp) (p : Addr) : D → Prop
  | .lst ds => ∃ vs, H p = some (.lst vs) ∧ Reps false K B vs ds
  | .dic kds => ∃ kvs, H p = some (.dK kvs) ∧ RepKs false K B kvs kds
  | .tdc kds => ∃ kas, H p = some (L2.TD.tdO K.P K.w p kas) ∧ RepTk false K B kas kds
  | _ => False
theorem Own.mono {K : KFr} {B H B' H' : Hp} {p : Addr} : ∀ {d : D}, Own K B H p d → Same B B' → Same H H' → Own K B' H' p d
  | .lst _, ⟨vs, h, r⟩, sb, sh => ⟨vs, sh _ _ h, r.mono sb⟩
  | .dic _, ⟨vs, h, r⟩, sb, sh => ⟨vs, sh _ _ h, r.mono sb⟩
  | .tdc _, ⟨vs, h, r⟩, sb, sh => ⟨vs, sh _ _ h, r.mono sb⟩
theorem Own.isSome {K : KFr} {B H : Hp} {p : Addr} : ∀ {d : D}, Own K B H p d → H p ≠ none
  | .lst _, ⟨vs, h, r⟩ => by rw [h]; exact fun z => by cases z
  | .dic _, ⟨vs, h, r⟩ => by rw [h]; exact fun z => by cases z
  | .tdc _, ⟨vs, h, r⟩ => by rw [h]; exact fun z => by cases z
theorem Own.freeze {K : KFr} {B H : Hp} {p : Addr} (s : Same B H) (hb : B p = none) {ds : List D} : Own K B H p (.lst ds) → ∃ o, H p = some o ∧ Same (upd B p o) H ∧ Same B (upd B p o) ∧ Rep false K (upd B p o) (.ref p) (.lst ds)
  | ⟨vs, h, r⟩ => ⟨_, h, fun b x e => by
      by_cases z : b = p
      · subst z
        rw [upd_same] at e
        rw [h, e]
      · rw [upd_ne z] at e
        exact s _ _ e, same_upd hb, .lst (.inl upd_same) (r.mono (same_upd hb))⟩
theorem Own.lock {K : KFr} {B H : Hp} {p : Addr} (s : Same B H) (hb : B p = none) : ∀ {d : D}, Own K B H p d → ∃ u, H p = some u ∧ Mut (some u) ∧ ∀ od, Same (upd B p (.frz od u)) (upd H p (.frz od u)) ∧ Same B (upd B p (.frz od u)) ∧ Rep false K (upd B p (.frz od u)) (.ref p) d
  | .lst _, ⟨vs, h, r⟩ => ⟨_, h, trivial, fun od => ⟨same_upd2 s, same_upd hb, .lst (.inr ⟨od, upd_same⟩) (r.mono (same_upd hb))⟩⟩
  | .dic _, ⟨vs, h, r⟩ => ⟨_, h, trivial, fun od => ⟨same_upd2 s, same_upd hb, .dic ⟨od, upd_same⟩ (r.mono (same_upd hb))⟩⟩
  | .tdc _, ⟨vs, h, r⟩ => ⟨_, h, trivial, fun od => ⟨same_upd2 s, same_upd hb, .tdc ⟨od, upd_same⟩ (r.mono (same_upd hb))⟩⟩
theorem Own.rep {K : KFr} {B H : Hp} {p : Addr} (s : Same B H) : ∀ {d : D}, Own K B H p d → Rep true K H (.ref p) d
  | .lst _, ⟨vs, h, r⟩ => .lst (.inl h) (Reps.wide (r.mono s))
  | .dic _, ⟨vs, h, r⟩ => .dko rfl (.inl h) (RepKs.wide (r.mono s))
  | .tdc _, ⟨vs, h, r⟩ => .tko rfl (.inl h) (RepTk.wide (r.mono s))

def kidsO : HO → List V
  | .lst vs => vs
  | .dK kvs => kvs.map (·.2)
  | _ => []
def Ft (B H : Hp) (v : V) (a : Addr) : Prop :=
  (∃ p, v = .ref p ∧ B p = none ∧ (a = p ∨ ∃ u, H p = some u ∧ V.ref a ∈ kidsO u ∧ B a = none)) ∨ ∃ p vs, v = .ref p ∧ TupAt B p vs ∧ V.ref a ∈ vs ∧ B a = none
def isMut : D → Bool
  | .lst _ => true
  | .dic _ => true
  | .tdc _ => true
  | _ => false
def Kid (K : KFr) (B H : Hp) (v : V) (d : D) : Prop := (isMut d = false ∧ Rep false K B v d) ∨ ∃ q, v = .ref q ∧ B q = none ∧ Own K B H q d
inductive Kids (K : KFr) (B H : Hp) : List V → List D → Prop
  | nil : Kids K B H [] []
  | cons {v : V} {vs : List V} {d : D} {ds : List D} : Kid K B H v d → Kids K B H vs ds → Kids K B H (v :: vs) (d :: ds)
inductive KidKs (K : KFr) (B H : Hp) : List (Key × V) → List (Key × D) → Prop
  | nil : KidKs K B H [] []
  | cons {k : Key} {v : V} {kvs : List (Key × V)} {d : D} {kds : List (Key × D)} : Kid K B H v d → KidKs K B H kvs kds → KidKs K B H ((k, v) :: kvs) ((k, d) :: kds)
def Apart (B : Hp) (vs : List V) : Prop := ∀ (i j : Nat) (q : Addr), vs[i]? = some (V.ref q) → vs[j]? = some (V.ref q) → B q = none → i = j
def Deep (K : KFr) (B H : Hp) (v : V) : D → Prop
  | .lst ds => ∃ p vs, v = .ref p ∧ H p = some (.lst vs) ∧ B p = none ∧ Kids K B H vs ds ∧ Apart B vs ∧ V.ref p ∉ vs
  | .dic kds => ∃ p kvs, v = .ref p ∧ H p = some (.dK kvs) ∧ B p = none ∧ KidKs K B H kvs kds ∧ Apart B (kvs.map (·.2)) ∧ V.ref p ∉ kvs.map (·.2)
  | .tup ds => ∃ p vs, v = .ref p ∧ TupAt B p vs ∧ Kids K B H vs ds ∧ Apart B vs
  | .tdc _ => False
  | d => Rep false K B v d
section
variable {K : KFr} {B H B' H' : Hp} {v : V} {d : D} {a p : Addr}
theorem rep_some {c : Bool} (h : Rep false K B (.ref p) d) : B p ≠ none := by
  intro z
  cases h with
  | lst h _ => rcases h with h | ⟨o, h⟩ <;> rw [z] at h <;> cases h
  | kls hc _ _ => cases hc
  | tup h _ => obtain ⟨o, h, _⟩ := h; rw [z] at h; cases h
  | dic h _ => obtain ⟨o, h⟩ := h; rw [z] at h; cases h
  | dko hc _ _ => cases hc
  | tdc h _ => obtain ⟨o, h⟩ := h; rw [z] at h; cases h
  | tko hc _ _ => cases hc
theorem Reps.some_mem : ∀ {vs : List V} {ds : List D}, Reps false K B vs ds → V.ref p ∈ vs → B p ≠ none
  | _, _, .cons h r, m => by
    rcases List.mem_cons.mp m with e | m
    · subst e; exact rep_some (c := false) h
    · exact Reps.some_mem r m
theorem RepKs.some_mem : ∀ {vs : List (Key × V)} {ds : List (Key × D)}, RepKs false K B vs ds → V.ref p ∈ vs.map (·.2) → B p ≠ none
  | _, _, .cons h r, m => by
    rcases List.mem_cons.mp m with e | m
    · have e : V.ref p = _ := e
      subst e; exact rep_some (c := false) h
    · exact RepKs.some_mem r m
theorem Ft.root (h : B p = none) : Ft B H (.ref p) p := .inl ⟨p, rfl, h, .inl rfl⟩
theorem Own.ft (hb : B p = none) (ho : Own K B H p d) (f : Ft B H (.ref p) a) : a = p := by
  rcases f with ⟨q, e, h1, e2 | ⟨u, hu, hm, hn⟩⟩ | ⟨q, vs, e, ht, hm, hn⟩
  · cases e; exact e2
  · cases e
    cases d with
    | lst ds =>
      obtain ⟨vs, h, r⟩ := ho
      rw [h] at hu
      cases hu
      exact absurd hn (r.some_mem hm)
    | dic ds =>
      obtain ⟨vs, h, r⟩ := ho
      rw [h] at hu
      cases hu
      exact absurd hn (r.some_mem hm)
    | tdc ds =>
      obtain ⟨vs, h, r⟩ := ho
      rw [h] at hu
      cases hu
      cases hm
    | _ => exact ho.elim
  · cases e
    obtain ⟨o, ho', _⟩ := ht
    rw [hb] at ho'
    cases ho'
theorem Kid.mono (sb : Same B B') (sh : Same H H') (hn : ∀ p, H p ≠ none → B' p = B p) (h : Kid K B H v d) : Kid K B' H' v d := by
  rcases h with ⟨hm, h⟩ | ⟨q, e, hb, ho⟩
  · exact .inl ⟨hm, h.mono sb⟩
  · exact .inr ⟨q, e, (hn q ho.isSome).trans hb, ho.mono sb sh⟩
theorem Kids.mono (sb : Same B B') (sh : Same H H') (hn : ∀ p, H p ≠ none → B' p = B p) : ∀ {vs : List V} {ds : List D}, Kids K B H vs ds → Kids K B' H' vs ds
  | _, _, .nil => .nil
  | _, _, .cons h r => .cons (h.mono sb sh hn) (Kids.mono sb sh hn r)
theorem KidKs.mono (sb : Same B B') (sh : Same H H') (hn : ∀ p, H p ≠ none → B' p = B p) : ∀ {vs : List (Key × V)} {ds : List (Key × D)}, KidKs K B H vs ds → KidKs K B' H' vs ds
  | _, _, .nil => .nil
  | _, _, .cons h r => .cons (h.mono sb sh hn) (KidKs.mono sb sh hn r)
theorem Apart.mono (sb : Same B B') {vs : List V} (h : Apart B vs) : Apart B' vs := fun i j q h1 h2 hq => h i j q h1 h2 (sb.free hq)
theorem Deep.mono (sb : Same B B') (sh : Same H H') (hn : ∀ p, H p ≠ none → B' p = B p) : ∀ {d : D}, Deep K B H v d → Deep K B' H' v d
  | .lst _, ⟨p, vs, e, h, hb, hk, ha, hp⟩ => ⟨p, vs, e, sh _ _ h, (hn p (by rw [h]; exact fun z => by cases z)).trans hb, hk.mono sb sh hn, ha.mono sb, hp⟩
  | .dic _, ⟨p, vs, e, h, hb, hk, ha, hp⟩ => ⟨p, vs, e, sh _ _ h, (hn p (by rw [h]; exact fun z => by cases z)).trans hb, hk.mono sb sh hn, ha.mono sb, hp⟩
  | .tup _, ⟨p, vs, e, h, hk, ha⟩ => ⟨p, vs, e, h.mono sb, hk.mono sb sh hn, ha.mono sb⟩
  | .non, h => Rep.mono sb h
  | .bl _, h => Rep.mono sb h
  | .int _, h => Rep.mono sb h
  | .str _, h => Rep.mono sb h
  | .tdc _, h => h.elim
theorem flat_ft (h : Rep false K B v d) (hd : d = .non ∨ (∃ b, d = .bl b) ∨ (∃ i, d = .int i) ∨ ∃ s, d = .str s) (f : Ft B' H' v a) : False := by
  have : ∃ p, v = .ref p := by
    rcases f with ⟨q, e, _⟩ | ⟨q, vs, e, _⟩ <;> exact ⟨q, e⟩
  obtain ⟨p, rfl⟩ := this
  rcases hd with rfl | ⟨_, rfl⟩ | ⟨_, rfl⟩ | ⟨_, rfl⟩ <;> cases h
theorem Deep.back (sb : Same B B') (sh : Same H H') (hn : ∀ p, H p ≠ none → B' p = B p) (h : Deep K B H v d) (f : Ft B' H' v a) : Ft B H v a := by
  have own : ∀ {p : Addr} {u : HO}, v = .ref p → H p = some u → B p = none → Ft B H v a := by
    intro p u e hu hb
    subst e
    have hb' : B' p = none := (hn p (by rw [hu]; exact fun z => by cases z)).trans hb
    rcases f with ⟨q, e, h1, h2⟩ | ⟨q, vs, e, ht, hm, hnn⟩
    · cases e
      refine .inl ⟨p, rfl, hb, ?_⟩
      rcases h2 with h2 | ⟨u', hu', hm, hnn⟩
      · exact .inl h2
      · rw [sh _ _ hu] at hu'
        cases hu'
        exact .inr ⟨u, hu, hm, sb.free hnn⟩
    · cases e
      obtain ⟨o, ho, _⟩ := ht
      rw [hb'] at ho
      cases ho
  cases d with
  | lst ds => obtain ⟨p, vs, e, h, hb, _⟩ := h; exact own e h hb
  | dic ds => obtain ⟨p, vs, e, h, hb, _⟩ := h; exact own e h hb
  | tup ds =>
    obtain ⟨p, vs, e, ht, _⟩ := h
    subst e
    obtain ⟨o, ho, hd⟩ := ht
    have ho' := sb _ _ ho
    rcases f with ⟨q, e, h1, h2⟩ | ⟨q, vs', e, ht', hm, hnn⟩
    · cases e
      rw [ho'] at h1
      cases h1
    · cases e
      obtain ⟨o', h', _⟩ := ht'
      rw [ho'] at h'
      cases h'
      exact .inr ⟨p, vs, rfl, ⟨o, ho, hd⟩, hm, sb.free hnn⟩
  | non => exact (flat_ft h (.inl rfl) f).elim
  | bl b => exact (flat_ft h (.inr (.inl ⟨b, rfl⟩)) f).elim
  | int b => exact (flat_ft h (.inr (.inr (.inl ⟨b, rfl⟩))) f).elim
  | str b => exact (flat_ft h (.inr (.inr (.inr ⟨b, rfl⟩))) f).elim
  | tdc _ => exact h.elim
theorem Own.back (sb : Same B B') (sh : Same H H') (hn : ∀ p, H p ≠ none → B' p = B p) (hb : B p = none) (h : Own K B H p d) (f : Ft B' H' (.ref p) a) : Ft B H (.ref p) a := by
  have := Own.ft ((hn p h.isSome).trans hb) (h.mono sb sh) f
  subst this
  exact Ft.root hb
theorem Kid.rep (s : Same B H) (h : Kid K B H v d) : Rep true K H v d := by
  rcases h with ⟨_, h⟩ | ⟨q, e, _, ho⟩
  · exact (h.mono s).wide
  · subst e; exact ho.rep s
theorem Kids.reps (s : Same B H) : ∀ {vs : List V} {ds : List D}, Kids K B H vs ds → Reps true K H vs ds
  | _, _, .nil => .nil
  | _, _, .cons h r => .cons (h.rep s) (r.reps s)
theorem KidKs.reps (s : Same B H) : ∀ {vs : List (Key × V)} {ds : List (Key × D)}, KidKs K B H vs ds → RepKs true K H vs ds
  | _, _, .nil => .nil
  | _, _, .cons h r => .cons (h.rep s) (r.reps s)
theorem Deep.rep (s : Same B H) : ∀ {d : D}, Deep K B H v d → Rep true K H v d
  | .lst _, ⟨p, vs, e, h, _, hk, _⟩ => e ▸ .lst (.inl h) (hk.reps s)
  | .dic _, ⟨p, vs, e, h, _, hk, _⟩ => e ▸ .dko rfl (.inl h) (hk.reps s)
  | .tup _, ⟨p, vs, e, h, hk, _⟩ => e ▸ .tup (h.mono s) (hk.reps s)
  | .non, h => (Rep.mono s h).wide
  | .bl _, h => (Rep.mono s h).wide
  | .int _, h => (Rep.mono s h).wide
  | .str _, h => (Rep.mono s h).wide
  | .tdc _, h => h.elim
theorem Deep.trk (s : Same B H) (h : Deep K B H v d) (f : Ft B H v a) : H a ≠ none := by
  have kid : ∀ {x : V} {d : D}, Kid K B H x d → x = .ref a → B a = none → H a ≠ none := by
    intro x d k e hb
    rcases k with ⟨_, k⟩ | ⟨q, e', hb', ho⟩
    · subst e; exact absurd hb (rep_some (c := false) k)
    · rw [e] at e'; cases e'; exact ho.isSome
  have kids : ∀ {vs : List V} {ds : List D}, Kids K B H vs ds → V.ref a ∈ vs → B a = none → H a ≠ none := by
    intro vs ds k
    induction k with
    | nil => intro m; cases m
    | cons h r ih =>
      intro m hb
      rcases List.mem_cons.mp m with e | m
      · exact kid h e.symm hb
      · exact ih m hb
  have kidks : ∀ {vs : List (Key × V)} {ds : List (Key × D)}, KidKs K B H vs ds → V.ref a ∈ vs.map (·.2) → B a = none → H a ≠ none := by
    intro vs ds k
    induction k with
    | nil => intro m; cases m
    | cons h r ih =>
      intro m hb
      rcases List.mem_cons.mp m with e | m
      · exact kid h e.symm hb
      · exact ih m hb
  cases d with
  | lst ds =>
    obtain ⟨p, vs, e, h, hb, hk, _⟩ := h
    subst e
    rcases f with ⟨q, e, h1, h2 | ⟨u, hu, hm, hnn⟩⟩ | ⟨q, vs', e, ht', hm, hnn⟩
    · cases e; subst h2; rw [h]; exact fun z => by cases z
    · cases e; rw [h] at hu; cases hu; exact kids hk hm hnn
    · cases e; obtain ⟨o, ho, _⟩ := ht'; rw [hb] at ho; cases ho
  | dic ds =>
    obtain ⟨p, vs, e, h, hb, hk, _⟩ := h
    subst e
    rcases f with ⟨q, e, h1, h2 | ⟨u, hu, hm, hnn⟩⟩ | ⟨q, vs', e, ht', hm, hnn⟩
    · cases e; subst h2; rw [h]; exact fun z => by cases z
    · cases e; rw [h] at hu; cases hu; exact kidks hk hm hnn
    · cases e; obtain ⟨o, ho, _⟩ := ht'; rw [hb] at ho; cases ho
  | tup ds =>
    obtain ⟨p, vs, e, ⟨o, ho, hd⟩, hk, _⟩ := h
    subst e
    rcases f with ⟨q, e, h1, h2⟩ | ⟨q, vs', e, ht', hm, hnn⟩
    · cases e; rw [ho] at h1; cases h1
    · cases e; obtain ⟨o', ho', _⟩ := ht'; rw [ho] at ho'; cases ho'; exact kids hk hm hnn
  | non => exact (flat_ft h (.inl rfl) f).elim
  | bl b => exact (flat_ft h (.inr (.inl ⟨b, rfl⟩)) f).elim
  | int b => exact (flat_ft h (.inr (.inr (.inl ⟨b, rfl⟩))) f).elim
  | str b => exact (flat_ft h (.inr (.inr (.inr ⟨b, rfl⟩))) f).elim
  | tdc _ => exact h.elim
theorem Ft.bnone (f : Ft B H v a) : B a = none := by
  rcases f with ⟨q, e, h1, h2 | ⟨u, hu, hm, hnn⟩⟩ | ⟨q, vs', e, ht', hm, hnn⟩
  · subst h2; exact h1
  · exact hnn
  · exact hnn
end
inductive Md where
  | un | im | ar | ow | dp | ex (a : Addr) (c : Str) | dq (w : V) | fn (a : Addr) | aq (w : V)
def Slot (K : KFr) (H0 B H : Hp) : Md → Option V → D → Prop
  | .un, _, _ => True
  | .im, some v, d => Rep false K B v d
  | .ar, some v, d => Rep true K H0 v d
  | .ow, some (.ref p), d => H0 p = none ∧ B p = none ∧ Own K B H p d
  | .dp, some v, d => Deep K B H v d ∧ ∀ a, Ft B H v a → H0 a = none
  | .ex a c, some v, d => v = .ref a ∧ d = .str c
  | .dq w, some v, d => (Deep K B H v d ∧ ∀ a, Ft B H v a → H0 a = none) ∧ v = w
  | .fn a, some v, _ => v = .ref a
  | .aq w, some v, d => Rep true K H0 v d ∧ v = w
  | _, _, _ => False
def isO : Md → Bool
  | .ow => true
  | .dp => true
  | .dq _ => true
  | _ => false
def Slots (K : KFr) (H0 B H : Hp) : List Md → List (Option V) → List D → Prop
  | [], [], [] => True
  | m :: ms, x :: xs, d :: ds => Slot K H0 B H m x d ∧ Slots K H0 B H ms xs ds
  | _, _, _ => False
structure Sta (K : KFr) (G : List Md) (B0 H0 : Hp) (sg : St) (e : List D) (B H : Hp) : Prop where
  ext : Ext B0 H0 B H
  sl : Slots K H0 B H G sg e
  ds : ∀ (i j : Nat) (m n : Md) (v w : V) (a : Addr), G[i]? = some m → isO m = true → G[j]? = some n → isO n = true → sg[i]? = some (some v) → sg[j]? = some (some w) → Ft B H v a → Ft B H w a → i = j
section
variable {K : KFr} {H0 B0 B H B' H' : Hp} {G : List Md} {sg : St} {e : List D}
theorem Slot.mono (sb : Same B B') (sh : Same H H') (hn : ∀ p, H p ≠ none → B' p = B p) : ∀ {m : Md} {x : Option V} {d : D}, Slot K H0 B H m x d → Slot K H0 B' H' m x d
  | .un, _, _, _ => trivial
  | .im, some _, _, h => Rep.mono sb h
  | .ar, some _, _, h => h
  | .ow, some (.ref p), _, ⟨h1, h2, h3⟩ => ⟨h1, (hn p h3.isSome).trans h2, h3.mono sb sh⟩
  | .dp, some _, _, ⟨h1, h2⟩ => ⟨h1.mono sb sh hn, fun a f => h2 a (h1.back sb sh hn f)⟩
  | .ex _ _, some _, _, h => h
  | .dq _, some _, _, ⟨⟨h1, h2⟩, h3⟩ => ⟨⟨h1.mono sb sh hn, fun a f => h2 a (h1.back sb sh hn f)⟩, h3⟩
  | .fn _, some _, _, h => h
  | .aq _, some _, _, h => h
theorem Slot.back (sb : Same B B') (sh : Same H H') (hn : ∀ p, H p ≠ none → B' p = B p) {v : V} {a : Addr} : ∀ {m : Md} {d : D}, isO m = true → Slot K H0 B H m (some v) d → Ft B' H' v a → Ft B H v a
  | .ow, _, _, h, f => by
    cases v with
    | ref p => exact h.2.2.back sb sh hn h.2.1 f
    | _ => exact h.elim
  | .dp, _, _, h, f => h.1.back sb sh hn f
  | .dq _, _, _, h, f => h.1.1.back sb sh hn f
theorem Slots.mono (sb : Same B B') (sh : Same H H') (hn : ∀ p, H p ≠ none → B' p = B p) : ∀ {ms : List Md} {xs : List (Option V)} {ds : List D}, Slots K H0 B H ms xs ds → Slots K H0 B' H' ms xs ds
  | [], [], [], _ => trivial
  | _ :: _, _ :: _, _ :: _, ⟨h, r⟩ => ⟨Slot.mono sb sh hn h, Slots.mono sb sh hn r⟩
theorem Slots.get : ∀ {ms : List Md} {xs : List (Option V)} {ds : List D} {i : Nat} {m : Md}, Slots K H0 B H ms xs ds → ms[i]? = some m → ∃ x d, xs[i]? = some x ∧ ds[i]? = some d ∧ Slot K H0 B H m x d
  | [], [], [], _, _, _, h => by simp at h
  | _ :: _, _ :: _, _ :: _, 0, _, ⟨q, _⟩, h => by
    have e := Option.some.inj (show some _ = some _ from h)
    subst e
    exact ⟨_, _, rfl, rfl, q⟩
  | _ :: _, _ :: _, _ :: _, i + 1, _, ⟨_, r⟩, h => by
    obtain ⟨x, d, h1, h2, h3⟩ := Slots.get (i := i) r (by simpa using h)
    exact ⟨x, d, by simpa using h1, by simpa using h2, h3⟩
theorem Sta.later (s : Sta K G B0 H0 sg e B H) (x : Ext B H B' H') : Sta K G B0 H0 sg e B' H' :=
  ⟨s.ext.trans x, Slots.mono x.b x.h x.n s.sl, fun i j m n v w a g1 o1 g2 o2 s1 s2 f1 f2 => by
    obtain ⟨x1, d1, h1, _, k1⟩ := s.sl.get g1
    obtain ⟨x2, d2, h2, _, k2⟩ := s.sl.get g2
    rw [s1] at h1; cases h1
    rw [s2] at h2; cases h2
    exact s.ds i j m n v w a g1 o1 g2 o2 s1 s2 (Slot.back x.b x.h x.n o1 k1 f1) (Slot.back x.b x.h x.n o2 k2 f2)⟩
theorem Slots.set {m : Md} {x : Option V} {d : D} (h : Slot K H0 B H m x d) : ∀ {ms : List Md} {xs : List (Option V)} {ds : List D} (i : Nat), Slots K H0 B H ms xs ds → Slots K H0 B H (ms.set i m) (xs.set i x) (ds.set i d)
  | [], [], [], _, _ => trivial
  | _ :: _, _ :: _, _ :: _, 0, ⟨_, r⟩ => ⟨h, r⟩
  | _ :: _, _ :: _, _ :: _, i + 1, ⟨q, r⟩ => ⟨q, Slots.set h i r⟩
theorem Slots.len : ∀ {ms : List Md} {xs : List (Option V)} {ds : List D}, Slots K H0 B H ms xs ds → xs.length = ms.length ∧ ds.length = ms.length
  | [], [], [], _ => ⟨rfl, rfl⟩
  | _ :: _, _ :: _, _ :: _, ⟨_, r⟩ => ⟨congrArg (· + 1) r.len.1, congrArg (· + 1) r.len.2⟩
end
end L2.VL
set_option Elab.async false
set_option linter.all false
set_option maxRecDepth 100000
set_option maxHeartbeats 4000000
namespace L2.VL
open PySem PySem.Spec PyProof.Rows
inductive Tg where
  | im | ar | lo | fr | oc
def RepT (K : KFr) (H0 H B' H' : Hp) : Tg → V → D → Prop
  | .im, v, d => Rep false K B' v d
  | .ar, v, d => Rep true K H0 v d
  | .lo, v, d => Rep true K H' v d
  | .fr, v, d => ∃ p, v = .ref p ∧ H p = none ∧ B' p = none ∧ Own K B' H' p d
  | .oc, v, d => ∃ p, v = .ref p ∧ Own K B' H' p d
section
variable {K : KFr} {H0 H H1 B1 B2 H2 : Hp} {m : Tg} {v : V} {d : D}
theorem RepT.later (r : RepT K H0 H B1 H1 m v d) (x : Ext B1 H1 B2 H2) : RepT K H0 H B2 H2 m v d := by
  cases m with
  | im => exact Rep.mono x.b r
  | ar => exact r
  | lo => exact Rep.mono x.h r
  | fr =>
    obtain ⟨p, h1, h2, h3, h4⟩ := r
    exact ⟨p, h1, h2, (x.n p h4.isSome).trans h3, h4.mono x.b x.h⟩
  | oc =>
    obtain ⟨p, h1, h4⟩ := r
    exact ⟨p, h1, h4.mono x.b x.h⟩
theorem RepT.earlier (r : RepT K H0 H1 B2 H2 m v d) (x : Same H H1) : RepT K H0 H B2 H2 m v d := by
  cases m with
  | im => exact r
  | ar => exact r
  | lo => exact r
  | fr =>
    obtain ⟨p, h1, h2, h3, h4⟩ := r
    exact ⟨p, h1, x.free h2, h3, h4⟩
  | oc => exact r
theorem RepT.all (r : RepT K H0 H B2 H2 m v d) (s : Same B2 H2) (s0 : Same H0 H2) : Rep true K H2 v d := by
  cases m with
  | im => exact (Rep.mono s r).wide
  | ar => exact Rep.mono s0 r
  | lo => exact r
  | fr =>
    obtain ⟨p, h1, h2, h3, h4⟩ := r
    subst h1
    exact h4.rep s
  | oc =>
    obtain ⟨p, h1, h4⟩ := r
    subst h1
    exact h4.rep s
end
def KE (K : KFr) (mg : Str → Option Value) (W : WX) (sg : St) (H0 B H : Hp) (Q : VK) (m : Tg) : R D → Prop
  | .ok d => ∀ B' H' v, Ext B H B' H' → RepT K H0 H B' H' m v d → Q v H'
  | .ex c => ∀ B' H' a, Ext B H B' H' → mg c = some (.ref a) → W (.ref a) none sg H'
  | .bad => False
def vE (K : KFr) (mg : Str → Option Value) (G : List Md) (W : WX) (m : Tg) (f : List D → R D) : TE := fun sg H Q =>
  ∃ B0 H0 B e, Sta K G B0 H0 sg e B H ∧ KE K mg W sg H0 B H Q m (f e)
def KT (mg : Str → Option Value) (W : WX) (sg : St) (B H : Hp) (Q : Bool → Hp → Prop) : R Bool → Prop
  | .ok b => ∀ B' H', Ext B H B' H' → Q b H'
  | .ex c => ∀ B' H' a, Ext B H B' H' → mg c = some (.ref a) → W (.ref a) none sg H'
  | .bad => False
def vT (K : KFr) (mg : Str → Option Value) (G : List Md) (W : WX) (f : List D → R Bool) : TT := fun sg H Q =>
  ∃ B0 H0 B e, Sta K G B0 H0 sg e B H ∧ KT mg W sg B H Q (f e)
def RepTs (K : KFr) (H0 H B' H' : Hp) : List Tg → List V → List D → Prop
  | [], [], [] => True
  | m :: ms, v :: vs, d :: ds => RepT K H0 H B' H' m v d ∧ RepTs K H0 H B' H' ms vs ds
  | _, _, _ => False
def KA (K : KFr) (mg : Str → Option Value) (W : WX) (sg : St) (H0 B H : Hp) (Q : List V → Hp → Prop) (ms : List Tg) : R (List D) → Prop
  | .ok ds => ∀ B' H' vs, Ext B H B' H' → RepTs K H0 H B' H' ms vs ds → Q vs H'
  | .ex c => ∀ B' H' a, Ext B H B' H' → mg c = some (.ref a) → W (.ref a) none sg H'
  | .bad => False
def vA (K : KFr) (mg : Str → Option Value) (G : List Md) (W : WX) (ms : List Tg) (f : List D → R (List D)) : TA := fun sg H Q =>
  ∃ B0 H0 B e, Sta K G B0 H0 sg e B H ∧ KA K mg W sg H0 B H Q ms (f e)
theorem RepTs.earlier {K : KFr} {H0 H H1 B2 H2 : Hp} (x : Same H H1) : ∀ {ms : List Tg} {vs : List V} {ds : List D}, RepTs K H0 H1 B2 H2 ms vs ds → RepTs K H0 H B2 H2 ms vs ds
  | [], [], [], _ => trivial
  | _ :: _, _ :: _, _ :: _, ⟨h, r⟩ => ⟨h.earlier x, RepTs.earlier x r⟩

theorem pe_weak {X : Cx} {e : Expr} {t t' : TE} (h : PE X e t) (w : ∀ sg H Q, t' sg H Q → t sg H Q) : PE X e t' := ⟨fun pins s σ H Q I q => h.run pins s σ H Q I (w σ H Q q)⟩
theorem pt_weak {X : Cx} {e : Expr} {t t' : TT} (h : PT X e t) (w : ∀ sg H Q, t' sg H Q → t sg H Q) : PT X e t' := ⟨fun pins s σ H Q I q => h.run pins s σ H Q I (w σ H Q q)⟩
theorem pw_weak {X : Cx} {e : Expr} {t t' : TT} (h : PW X e t) (w : ∀ sg H Q, t' sg H Q → t sg H Q) : PW X e t' := ⟨fun wh pins s σ H Q I q => h.run wh pins s σ H Q I (w σ H Q q)⟩
theorem pa_weak {X : Cx} {es : List Expr} {t t' : TA} (h : PA X es t) (w : ∀ sg H Q, t' sg H Q → t sg H Q) : PA X es t' := ⟨fun pos pins s σ H Q I q => h.run pos pins s σ H Q I (w σ H Q q)⟩
theorem ps_weak {X : Cx} {st : Stmt} {t t' : TS} (h : PS X st t) (w : ∀ D sg H, t' D sg H → t D sg H) : PS X st t' := ⟨fun pins s σ H D I q => h.run pins s σ H D I (w D σ H q)⟩
theorem pss_weak {X : Cx} {st : List Stmt} {t t' : TS} (h : PSs X st t) (w : ∀ D sg H, t' D sg H → t D sg H) : PSs X st t' := ⟨fun pins s σ H D I q => h.run pins s σ H D I (w D σ H q)⟩

section
variable {K : KFr} {mg : Str → Option Value} {G : List Md} {W : WX} {sg : St} {H H0 B0 B B1 H1 : Hp} {Q : VK} {e : List D}
theorem KE.later {m : Tg} {r : R D} (k : KE K mg W sg H0 B H Q m r) (x : Ext B H B1 H1) : KE K mg W sg H0 B1 H1 Q m r := by
  cases r with
  | ok d => exact fun B' H' v y r => k B' H' v (x.trans y) (r.earlier x.h)
  | ex c => exact fun B' H' a y hm => k B' H' a (x.trans y) hm
  | bad => exact k
theorem seq1 {α : Type} {fa : List D → R D} {kk : D → R α} {ma : Tg} {P : R α → Prop} (S : Sta K G B0 H0 sg e B H) {Rr : V → Hp → Prop}
    (h : P ((fa e).bind kk)) (hx : ∀ c, P (.ex c) → ∀ B' H' a, Ext B H B' H' → mg c = some (.ref a) → W (.ref a) none sg H') (hb : ¬ P .bad)
    (fin : ∀ B1 H1 x d, Ext B H B1 H1 → Sta K G B0 H0 sg e B1 H1 → RepT K H0 H B1 H1 ma x d → P (kk d) → Rr x H1) :
    vE K mg G W ma fa sg H Rr := by
  refine ⟨B0, H0, B, e, S, ?_⟩
  cases ea : fa e with
  | bad => rw [ea] at h; exact (hb h).elim
  | ex c => rw [ea] at h; exact hx c h
  | ok d =>
    rw [ea] at h
    exact fun B1 H1 x x1 r => fin B1 H1 x d x1 (S.later x1) r h
theorem KE.ex_of {m : Tg} {c : Str} (k : KE K mg W sg H0 B H Q m (.ex c)) : ∀ B' H' a, Ext B H B' H' → mg c = some (.ref a) → W (.ref a) none sg H' := k
end
def ofO {α : Type} : Option α → R α
  | some a => .ok a
  | none => .bad
@[simp] theorem ofO_some {α : Type} (a : α) : ofO (some a) = .ok a := rfl
@[simp] theorem ofO_none {α : Type} : ofO (none : Option α) = .bad := rfl
@[simp] def eVar (i : Nat) (e : List D) : R D := ofO e[i]?
@[simp] def eC (d : D) (_ : List D) : R D := .ok d
def flatD : D → Bool
  | .tup _ => false | .lst _ => false | .dic _ => false | .tdc _ => false | _ => true
@[simp] theorem flatD_non : flatD .non = true := rfl
@[simp] theorem flatD_bl (b : Bool) : flatD (.bl b) = true := rfl
@[simp] theorem flatD_int (i : Int) : flatD (.int i) = true := rfl
@[simp] theorem flatD_str (x : Str) : flatD (.str x) = true := rfl
@[simp] def eFlat (f : List D → R D) (e : List D) : R D := (f e).bind fun d => if flatD d then .ok d else .bad
section
variable {X : Cx} {G : List Md} {W : WX} {pos : Pos} {e : Expr} {f : List D → R D} {m : Tg}
theorem flat_rep {c c' : Bool} {K : KFr} {B B' : Hp} {v : V} {d : D} (r : Rep c K B v d) (h : flatD d = true) : Rep c' K B' v d := by
  cases r with
  | non => exact .non
  | bl b => exact .bl b
  | int i => exact .int i
  | str x => exact .str x
  | lst _ _ => cases h
  | kls _ _ _ => cases h
  | tup _ _ => cases h
  | dic _ _ => cases h
  | tdc _ _ => cases h
  | tko _ _ _ => cases h
  | dko _ _ _ => cases h
theorem ve_im {i : Nat} {x : Str} (hG : G[i]? = some .im := by rfl) (hN : X.N[i]? = some x := by rfl) (hv : Vis X.env.scope x := by first | exact Or.inl rfl | exact Or.inr (Or.inl rfl) | exact Or.inr (Or.inr rfl)) (hd : (x == ("__debug__" : Str)) = false := by decide)
    (hcd : (x == ("__classdict__" : Str)) = false := by decide) : PE X (.Name x pos) (vE (kf X) X.mg G W .im (eVar i)) := by
  refine pe_weak (pe_var hN hv hd hcd) fun sg H Q ⟨B0, H0, B, e, S, k⟩ => ?_
  obtain ⟨v, d, h1, h2, h3⟩ := S.sl.get hG
  unfold eVar at k
  rw [h2] at k
  cases v with
  | none => exact h3.elim
  | some v => exact ⟨v, h1, k B H v (.refl S.ext.s) h3⟩
theorem ve_ar {i : Nat} {x : Str} (hG : G[i]? = some .ar := by rfl) (hN : X.N[i]? = some x := by rfl) (hv : Vis X.env.scope x := by first | exact Or.inl rfl | exact Or.inr (Or.inl rfl) | exact Or.inr (Or.inr rfl)) (hd : (x == ("__debug__" : Str)) = false := by decide)
    (hcd : (x == ("__classdict__" : Str)) = false := by decide) : PE X (.Name x pos) (vE (kf X) X.mg G W .ar (eVar i)) := by
  refine pe_weak (pe_var hN hv hd hcd) fun sg H Q ⟨B0, H0, B, e, S, k⟩ => ?_
  obtain ⟨v, d, h1, h2, h3⟩ := S.sl.get hG
  unfold eVar at k
  rw [h2] at k
  cases v with
  | none => exact h3.elim
  | some v => exact ⟨v, h1, k B H v (.refl S.ext.s) h3⟩
theorem Slot.own {K : KFr} {H0 B H : Hp} {x : Option V} {d : D} (h : Slot K H0 B H .ow x d) : ∃ p, x = some (.ref p) ∧ H0 p = none ∧ B p = none ∧ Own K B H p d := by
  cases x with
  | none => exact h.elim
  | some v =>
    cases v with
    | ref p => exact ⟨p, rfl, h⟩
    | _ => exact h.elim
theorem ve_ow {i : Nat} {x : Str} (hG : G[i]? = some .ow := by rfl) (hN : X.N[i]? = some x := by rfl) (hv : Vis X.env.scope x := by first | exact Or.inl rfl | exact Or.inr (Or.inl rfl) | exact Or.inr (Or.inr rfl)) (hd : (x == ("__debug__" : Str)) = false := by decide)
    (hcd : (x == ("__classdict__" : Str)) = false := by decide) : PE X (.Name x pos) (vE (kf X) X.mg G W .oc (eVar i)) := by
  refine pe_weak (pe_var hN hv hd hcd) fun sg H Q ⟨B0, H0, B, e, S, k⟩ => ?_
  obtain ⟨v, d, h1, h2, h3⟩ := S.sl.get hG
  unfold eVar at k
  rw [h2] at k
  obtain ⟨p, rfl, _, hb, ho⟩ := h3.own
  exact ⟨.ref p, h1, k B H _ (.refl S.ext.s) ⟨p, rfl, ho⟩⟩
theorem ve_flatC {v : V} {d : D} (h : PE X e (tC v)) (hr : ∀ B, Rep false (kf X) B v d) : PE X e (vE (kf X) X.mg G W .im (eC d)) :=
  pe_weak h fun sg H Q ⟨B0, H0, B, e, S, k⟩ => k B H v (.refl S.ext.s) (hr _)
theorem ve_int {i : Int} {j} : PE X (.Constant (.int i) j pos) (vE (kf X) X.mg G W .im (eC (.int i))) := ve_flatC pe_int fun _ => .int i
theorem ve_bl {b : Bool} {j} : PE X (.Constant (.bool b) j pos) (vE (kf X) X.mg G W .im (eC (.bl b))) := ve_flatC pe_bl fun _ => .bl b
theorem ve_str {x : Str} {j} : PE X (.Constant (.str x) j pos) (vE (kf X) X.mg G W .im (eC (.str x))) := ve_flatC pe_str fun _ => .str x
theorem ve_glob {x : Str} {v : V} {d : D} {u : Value} (hg : Gl X x) (hm : X.mg x = some u) (r : RelV v u) (hr : ∀ B, Rep false (kf X) B v d) (hd : (x == ("__debug__" : Str)) = false := by decide) : PE X (.Name x pos) (vE (kf X) X.mg G W .im (eC d)) := ve_flatC (pe_glob hg hm r hd) hr
theorem pe_ghost {t : TE} (h : PE X e t) : PE X e (fun sg H Q => t sg H fun v H1 => Q v H1 ∨ ∃ d u, H1 d = some u ∧ Mut (some u) ∧ ∀ od, Q v (upd H1 d (.frz od u))) :=
  ⟨fun pins s sg H Q I q => thn (h.run pins s sg H _ I q) fun v s1 ⟨x, H1, I1, r, q1⟩ => by
    rcases q1 with q1 | ⟨d, u, hd, mu, q1⟩
    · exact ⟨x, H1, I1, r, q1⟩
    · obtain ⟨od, I2⟩ := I1.lock hd mu
      exact ⟨x, _, I2, r, q1 od⟩⟩
theorem ve_frz (h : PE X e (vE (kf X) X.mg G W .fr f)) : PE X e (vE (kf X) X.mg G W .im f) := by
  refine pe_weak (pe_ghost h) fun sg H Q ⟨B0, H0, B, e, S, k⟩ => ⟨B0, H0, B, e, S, ?_⟩
  cases ef : f e with
  | bad => rw [ef] at k; exact k
  | ex c => rw [ef] at k; exact k
  | ok d =>
    rw [ef] at k
    intro B' H' v x r
    obtain ⟨p, h1, h2, h3, h4⟩ := r
    subst h1
    obtain ⟨u, hu, mu, hl⟩ := h4.lock x.s h3
    refine .inr ⟨p, u, hu, mu, fun od => ?_⟩
    obtain ⟨s1, s2, r1⟩ := hl od
    refine k (upd B' p (.frz od u)) (upd H' p (.frz od u)) _ ⟨x.b.trans s2, same_updH x.h h2, s1, fun q hq => ?_⟩ r1
    rw [upd_ne (fun z => by subst z; exact hq h2)]
    exact x.n q hq
theorem ve_flat (h : PE X e (vE (kf X) X.mg G W m f)) : PE X e (vE (kf X) X.mg G W .im (eFlat f)) := by
  refine pe_weak h fun sg H Q ⟨B0, H0, B, e, S, k⟩ => ⟨B0, H0, B, e, S, ?_⟩
  unfold eFlat at k
  cases ef : f e with
  | bad => rw [ef] at k; exact k
  | ex c => rw [ef] at k; exact k
  | ok d =>
    rw [ef] at k
    have k : KE (kf X) X.mg W sg H0 B H Q .im (if flatD d then .ok d else .bad) := k
    by_cases hf : flatD d = true
    · rw [if_pos hf] at k
      exact fun B' H' v x r => k B' H' v x (flat_rep (r.all x.s (S.ext.h.trans x.h)) hf)
    · rw [if_neg hf] at k
      exact k.elim
end
@[simp] def eOp (g : D → D → Option D) (fa fb : List D → R D) (e : List D) : R D := (fa e).bind fun x => (fb e).bind fun y => ofO (g x y)
def Does2 (K : KFr) (r : R2) (g : D → D → Option D) : Prop := ∀ (H : Hp) (x y : V) (d1 d2 d : D) (Q : VK), Rep true K H x d1 → Rep true K H y d2 → g d1 d2 = some d → (∀ v, (∀ B, Rep false K B v d) → Q v H) → r x y H Q
section
variable {K : KFr} {mg : Str → Option Value} {G : List Md} {W : WX} {sg : St} {H : Hp} {Q : VK} {ma mb m : Tg} {fa fb : List D → R D} {r : R2} {g : D → D → Option D}
theorem seq2 {kk : D → D → R D} {Rr : V → V → Hp → Prop} (h : vE K mg G W m (fun e => (fa e).bind fun x => (fb e).bind fun y => kk x y) sg H Q)
    (fin : ∀ B0 H0 B e B2 H2 x y d1 d2, Sta K G B0 H0 sg e B H → Sta K G B0 H0 sg e B2 H2 → Ext B H B2 H2 → RepT K H0 H B2 H2 ma x d1 → RepT K H0 H B2 H2 mb y d2 → KE K mg W sg H0 B H Q m (kk d1 d2) → Rr x y H2) :
    vE K mg G W ma fa sg H fun x H1 => vE K mg G W mb fb sg H1 fun y H2 => Rr x y H2 := by
  obtain ⟨B0, H0, B, e, S, k⟩ := h
  refine seq1 (P := KE K mg W sg H0 B H Q m) S k (fun c k => k.ex_of) (fun k => k) fun B1 H1 x d1 x1 S1 r1 k1 => ?_
  refine seq1 (P := KE K mg W sg H0 B H Q m) S1 k1 (fun c k B' H' a y hm => k B' H' a (x1.trans y) hm) (fun k => k) fun B2 H2 y d2 x2 S2 r2 k2 => ?_
  exact fin B0 H0 B e B2 H2 x y d1 d2 S S2 (x1.trans x2) (r1.later x2) (r2.earlier x1.h) k2
theorem op2_flat (hd : Does2 K r g) : ∀ (sg : St) (H : Hp) (Q : VK), vE K mg G W .im (eOp g fa fb) sg H Q → tOp r (vE K mg G W ma fa) (vE K mg G W mb fb) sg H Q := fun sg H Q h => by
  refine seq2 (kk := fun x y => ofO (g x y)) h fun B0 H0 B e B2 H2 x y d1 d2 S S2 x2 r1 r2 k => ?_
  have s0 : Same H0 H2 := S2.ext.h
  cases eg : g d1 d2 with
  | none => rw [eg] at k; exact k.elim
  | some d =>
    rw [eg] at k
    exact hd H2 x y d1 d2 d Q (r1.all x2.s s0) (r2.all x2.s s0) eg fun v hv => k B2 H2 v x2 (hv _)
end
section
variable {X : Cx} {G : List Md} {W : WX} {pos : Pos} {a b : Expr} {fa fb : List D → R D} {ma mb : Tg} {r : R2} {g : D → D → Option D}
theorem ve_bin {op : Operator} (ho : OpR X (binaryOp op) r) (hd : Does2 (kf X) r g) (ha : PE X a (vE (kf X) X.mg G W ma fa)) (hb : PE X b (vE (kf X) X.mg G W mb fb)) : PE X (.BinOp a op b pos) (vE (kf X) X.mg G W .im (eOp g fa fb)) := pe_weak (pe_op ho ha hb) (op2_flat hd)
theorem ve_cmp {op : CmpOp} (ho : OpR X (compareOp op) r) (hd : Does2 (kf X) r g) (ha : PE X a (vE (kf X) X.mg G W ma fa)) (hb : PE X b (vE (kf X) X.mg G W mb fb)) (hm : behindInMarks op b = false := by first | exact nomark _ | rfl) : PE X (.Compare a [op] [b] pos) (vE (kf X) X.mg G W .im (eOp g fa fb)) :=
  pe_weak (pe_cmpR ho ha hb hm) (op2_flat hd)
end
def asB : D → R Bool
  | .bl b => .ok b
  | _ => .bad
@[simp] theorem asB_bl (b : Bool) : asB (.bl b) = .ok b := rfl
@[simp] def tVal (f : List D → R D) (e : List D) : R Bool := (f e).bind asB
section
variable {X : Cx} {G : List Md} {W : WX} {pos : Pos} {a b : Expr} {f : List D → R D} {m : Tg} {rest : List Expr} {c1 c2 : List D → R Bool}
theorem tval_of {K : KFr} {mg : Str → Option Value} (sg : St) (H : Hp) (Q : Bool → Hp → Prop) (h : vT K mg G W (tVal f) sg H Q) : vE K mg G W m f sg H fun x H1 => ∃ c, x = .bl c ∧ Q c H1 := by
  obtain ⟨B0, H0, B, e, S, k⟩ := h
  refine seq1 (P := KT mg W sg B H Q) S k (fun c k => k) (fun k => k) fun B1 H1 x d x1 S1 r1 k1 => ?_
  have r := r1.all x1.s S1.ext.h
  cases r with
  | bl b => exact ⟨b, rfl, k1 B1 H1 x1⟩
  | _ => exact k1.elim
theorem vt_val (h : PE X a (vE (kf X) X.mg G W m f)) (he : ∀ whole, isTrue a X.env whole = (do let v ← whole; standAt a.pos; holding [v] (truthy v)) := by intro _; rfl) : PT X a (vT (kf X) X.mg G W (tVal f)) := pt_weak (pt_val h he) tval_of
theorem vt_cmp {op : CmpOp} {r : R2} {g : D → D → Option D} {fa fb : List D → R D} {ma mb : Tg} (ho : OpR X (compareOp op) r) (hd : Does2 (kf X) r g) (ha : PE X a (vE (kf X) X.mg G W ma fa)) (hb : PE X b (vE (kf X) X.mg G W mb fb)) (hm : behindInMarks op b = false := by first | exact nomark _ | rfl) :
    PT X (.Compare a [op] [b] pos) (vT (kf X) X.mg G W (tVal (eOp g fa fb))) := by
  refine pt_weak (pt_cmpR ho ha hb hm) fun sg H Q h => ?_
  exact op2_flat hd sg H _ (tval_of sg H Q h)
@[simp] def tNotB (c : List D → R Bool) (e : List D) : R Bool := (c e).bind fun b => .ok (!b)
@[simp] def tAndB (c d : List D → R Bool) (e : List D) : R Bool := (c e).bind fun b => if b then d e else .ok false
@[simp] def tOrB (c d : List D → R Bool) (e : List D) : R Bool := (c e).bind fun b => if b then .ok true else d e
theorem seqT {α : Type} {K : KFr} {mg : Str → Option Value} {sg : St} {H H0 B0 B : Hp} {e : List D} {fa : List D → R Bool} {kk : Bool → R α} {P : R α → Prop} (S : Sta K G B0 H0 sg e B H) {Rr : Bool → Hp → Prop}
    (h : P ((fa e).bind kk)) (hx : ∀ c, P (.ex c) → ∀ B' H' a, Ext B H B' H' → mg c = some (.ref a) → W (.ref a) none sg H') (hb : ¬ P .bad)
    (fin : ∀ B1 H1 b, Ext B H B1 H1 → Sta K G B0 H0 sg e B1 H1 → P (kk b) → Rr b H1) : vT K mg G W fa sg H Rr := by
  refine ⟨B0, H0, B, e, S, ?_⟩
  cases ea : fa e with
  | bad => rw [ea] at h; exact (hb h).elim
  | ex c => rw [ea] at h; exact hx c h
  | ok d =>
    rw [ea] at h
    exact fun B1 H1 x1 => fin B1 H1 d x1 (S.later x1) h
theorem KT.later {mg : Str → Option Value} {sg : St} {B H B1 H1 : Hp} {Q : Bool → Hp → Prop} {r : R Bool} (k : KT mg W sg B H Q r) (x : Ext B H B1 H1) : KT mg W sg B1 H1 Q r := by
  cases r with
  | ok d => exact fun B' H' y => k B' H' (x.trans y)
  | ex c => exact fun B' H' a y hm => k B' H' a (x.trans y) hm
  | bad => exact k
theorem vt_not (h : PT X a (vT (kf X) X.mg G W c1)) : PT X (.UnaryOp .Not a pos) (vT (kf X) X.mg G W (tNotB c1)) := by
  refine pt_weak (pt_not h) fun sg H Q ⟨B0, H0, B, e, S, k⟩ => ?_
  exact seqT (P := KT X.mg W sg B H Q) S k (fun c k => k) (fun k => k) fun B1 H1 b x1 S1 k1 => k1 B1 H1 x1
theorem and_of {K : KFr} {mg : Str → Option Value} (sg : St) (H : Hp) (Q : Bool → Hp → Prop) (h : vT K mg G W (tAndB c1 c2) sg H Q) : tAnd (vT K mg G W c1) (vT K mg G W c2) sg H Q := by
  obtain ⟨B0, H0, B, e, S, k⟩ := h
  refine seqT (P := KT mg W sg B H Q) S k (fun c k => k) (fun k => k) fun B1 H1 b x1 S1 k1 => ?_
  cases b with
  | true => exact iteT ⟨B0, H0, B1, e, S1, KT.later k1 x1⟩
  | false => exact iteF (k1 B1 H1 x1)
theorem or_of {K : KFr} {mg : Str → Option Value} (sg : St) (H : Hp) (Q : Bool → Hp → Prop) (h : vT K mg G W (tOrB c1 c2) sg H Q) : tOr (vT K mg G W c1) (vT K mg G W c2) sg H Q := by
  obtain ⟨B0, H0, B, e, S, k⟩ := h
  refine seqT (P := KT mg W sg B H Q) S k (fun c k => k) (fun k => k) fun B1 H1 b x1 S1 k1 => ?_
  cases b with
  | true => exact iteT (k1 B1 H1 x1)
  | false => exact iteF ⟨B0, H0, B1, e, S1, KT.later k1 x1⟩
theorem vw_and1 (h : PT X a (vT (kf X) X.mg G W c1)) : PW X (.BoolOp .And [a] pos) (vT (kf X) X.mg G W c1) := pw_and1 h
theorem vw_or1 (h : PT X a (vT (kf X) X.mg G W c1)) : PW X (.BoolOp .Or [a] pos) (vT (kf X) X.mg G W c1) := pw_or1 h
theorem vw_and (h : PT X a (vT (kf X) X.mg G W c1)) (h2 : PW X (.BoolOp .And (b :: rest) pos) (vT (kf X) X.mg G W c2)) : PW X (.BoolOp .And (a :: b :: rest) pos) (vT (kf X) X.mg G W (tAndB c1 c2)) := pw_weak (pw_and h h2) and_of
theorem vw_or (h : PT X a (vT (kf X) X.mg G W c1)) (h2 : PW X (.BoolOp .Or (b :: rest) pos) (vT (kf X) X.mg G W c2)) : PW X (.BoolOp .Or (a :: b :: rest) pos) (vT (kf X) X.mg G W (tOrB c1 c2)) := pw_weak (pw_or h h2) or_of
@[simp] def eAnd (f g : List D → R D) (e : List D) : R D := (f e).bind fun d => (asB d).bind fun b => if b then g e else .ok (.bl false)
variable {f1 f2 : List D → R D} {m1 m2 : Tg}
theorem ve_one {op} (h : PE X a (vE (kf X) X.mg G W m1 f1)) : PE X (.BoolOp op [a] pos) (vE (kf X) X.mg G W m1 f1) := pe_one h
theorem ve_and (h : PE X a (vE (kf X) X.mg G W m1 f1)) (h2 : PE X (.BoolOp .And (b :: rest) pos) (vE (kf X) X.mg G W .im f2)) : PE X (.BoolOp .And (a :: b :: rest) pos) (vE (kf X) X.mg G W .im (eAnd f1 f2)) := by
  refine pe_weak (pe_and h h2) fun sg H Q ⟨B0, H0, B, e, S, k⟩ => ?_
  refine seq1 (P := KE (kf X) X.mg W sg H0 B H Q .im) S k (fun c k => k) (fun k => k) fun B1 H1 x d x1 S1 r1 k1 => ?_
  have r := r1.all x1.s S1.ext.h
  cases r with
  | bl b =>
    refine ⟨b, rfl, ?_⟩
    cases b with
    | true => exact iteT ⟨B0, H0, B1, e, S1, KE.later k1 x1⟩
    | false => exact iteF (k1 B1 H1 _ x1 (.bl _))
  | _ => exact k1.elim
end
@[simp] def aNil (_ : List D) : R (List D) := .ok []
@[simp] def aCons (f : List D → R D) (r : List D → R (List D)) (e : List D) : R (List D) := (f e).bind fun d => (r e).bind fun ds => .ok (d :: ds)
section
variable {X : Cx} {G : List Md} {W : WX} {pos : Pos} {a : Expr} {es : List Expr} {f : List D → R D} {fs : List D → R (List D)} {m : Tg} {ms : List Tg}
theorem va_nil : PA X [] (vA (kf X) X.mg G W [] aNil) := pa_weak pa_nil fun sg H Q ⟨B0, H0, B, e, S, k⟩ => k B H [] (.refl S.ext.s) trivial
theorem va_cons (ha : PE X a (vE (kf X) X.mg G W m f)) (hr : PA X es (vA (kf X) X.mg G W ms fs)) (hs : starEach (a :: es) X.env = (false, eval a X.env) :: starEach es X.env := by rfl) : PA X (a :: es) (vA (kf X) X.mg G W (m :: ms) (aCons f fs)) := by
  refine pa_weak (pa_cons ha hr hs) fun sg H Q ⟨B0, H0, B, e, S, k⟩ => ?_
  refine seq1 (P := KA (kf X) X.mg W sg H0 B H Q (m :: ms)) S k (fun c k => k) (fun k => k) fun B1 H1 x d x1 S1 r1 k1 => ?_
  refine ⟨B0, H0, B1, e, S1, ?_⟩
  cases er : fs e with
  | bad => rw [er] at k1; exact k1.elim
  | ex c => rw [er] at k1; exact fun B' H' a y hm => k1 B' H' a (x1.trans y) hm
  | ok ds =>
    rw [er] at k1
    exact fun B2 H2 vs x2 r2 => k1 B2 H2 (x :: vs) (x1.trans x2) ⟨r1.later x2, RepTs.earlier x1.h r2⟩
end
end L2.VL
set_option Elab.async false
set_option linter.all false
set_option maxRecDepth 100000
set_option maxHeartbeats 4000000
namespace L2.VL
open PySem PySem.Spec PyProof.Rows
inductive Pm where
  | im | ar
def Pm.md : Pm → Md
  | .im => .im
  | .ar => .ar
def Args (K : KFr) (B H : Hp) : List Pm → List V → List D → Prop
  | [], [], [] => True
  | .im :: ms, v :: vs, d :: ds => Rep false K B v d ∧ Args K B H ms vs ds
  | .ar :: ms, v :: vs, d :: ds => Rep true K H v d ∧ Args K B H ms vs ds
  | _, _, _ => False
inductive Rm where
  | im | fr | df | io (w : V)
def Rm.pl : Rm → Bool
  | .io _ => false
  | _ => true
def Rm.tg : Rm → Tg
  | .im => .im
  | .fr => .fr
  | .df => .lo
  | .io _ => .lo
def RetT (K : KFr) (H B' H' : Hp) : Rm → V → D → Prop
  | .im, v, d => Rep false K B' v d
  | .fr, v, d => ∃ p, v = .ref p ∧ H p = none ∧ B' p = none ∧ Own K B' H' p d
  | .df, v, d => Same B' H' ∧ Deep K B' H' v d ∧ ∀ a, Ft B' H' v a → H a = none
  | .io w, v, d => ∃ r d0, d = .tup [r, d0] ∧ Rep false K B' v r ∧ Deep K B' H' w d0 ∧ ∀ a, Ft B' H' w a → H a = none
def KF (K : KFr) (mg : Str → Option Value) (rm : Rm) (B H : Hp) (Q : VK) (E : XK) : R D → Prop
  | .ok d => ∀ B' H' v, Ext B H B' H' → RetT K H B' H' rm v d → Q v H'
  | .ex c => ∀ B' H' a, Ext B H B' H' → mg c = some (.ref a) → E (.ref a) none H'
  | .bad => False
def spF (K : KFr) (mg : Str → Option Value) (ms : List Pm) (rm : Rm) (F : List D → R D) : Sp := fun vs H Q E =>
  ∃ B ds, Same B H ∧ Args K B H ms vs ds ∧ KF K mg rm B H Q E (F ds)
theorem Args.len {K : KFr} {B H : Hp} : ∀ {ms : List Pm} {vs : List V} {ds : List D}, Args K B H ms vs ds → vs.length = ms.length ∧ ds.length = ms.length
  | [], [], [], _ => ⟨rfl, rfl⟩
  | .im :: _, _ :: _, _ :: _, ⟨_, r⟩ => ⟨congrArg (· + 1) r.len.1, congrArg (· + 1) r.len.2⟩
  | .ar :: _, _ :: _, _ :: _, ⟨_, r⟩ => ⟨congrArg (· + 1) r.len.1, congrArg (· + 1) r.len.2⟩
def Fit : List Tg → List Pm → Bool
  | [], [] => true
  | .im :: ts, .im :: ms => Fit ts ms
  | _ :: ts, .ar :: ms => Fit ts ms
  | _, _ => false
theorem args_of {K : KFr} {H0 H B' H' : Hp} (s : Same B' H') (s0 : Same H0 H') : ∀ {ts : List Tg} {ms : List Pm} {vs : List V} {ds : List D}, Fit ts ms = true → RepTs K H0 H B' H' ts vs ds → Args K B' H' ms vs ds
  | [], [], [], [], _, _ => trivial
  | .im :: _, .im :: _, _ :: _, _ :: _, f, ⟨h, r⟩ => ⟨h, args_of s s0 f r⟩
  | .im :: _, .ar :: _, _ :: _, _ :: _, f, ⟨h, r⟩ => ⟨h.all s s0, args_of s s0 f r⟩
  | .ar :: _, .ar :: _, _ :: _, _ :: _, f, ⟨h, r⟩ => ⟨h.all s s0, args_of s s0 f r⟩
  | .lo :: _, .ar :: _, _ :: _, _ :: _, f, ⟨h, r⟩ => ⟨h.all s s0, args_of s s0 f r⟩
  | .fr :: _, .ar :: _, _ :: _, _ :: _, f, ⟨h, r⟩ => ⟨h.all s s0, args_of s s0 f r⟩
  | .oc :: _, .ar :: _, _ :: _, _ :: _, f, ⟨h, r⟩ => ⟨h.all s s0, args_of s s0 f r⟩
@[simp] def eCall (F : List D → R D) (fs : List D → R (List D)) (e : List D) : R D := (fs e).bind F
section
variable {X : Cx} {G : List Md} {W : WX} {pos p : Pos} {a : Expr} {es : List Expr} {fs : List D → R (List D)} {ts : List Tg} {ms : List Pm} {rm : Rm} {F : List D → R D} {k : Nat} {f : Addr} {fd : FuncData} {ps : List Str} {x : Str}
theorem ret_tg {K : KFr} {H0 H B' H' : Hp} {v : V} {d : D} (hpr : rm.pl = true) (r : RetT K H B' H' rm v d) : RepT K H0 H B' H' rm.tg v d := by
  cases rm with
  | im => exact r
  | fr => exact r
  | df =>
    obtain ⟨s, r, _⟩ := r
    exact r.rep s
  | io w => cases hpr
theorem ve_call (Fk : FnOk X.prog X.w (kf X) X.mg X.base (L2.CX X.prog X.w) k f fd ps (spF (kf X) X.mg ms rm F)) (hr : Room k X.A) (hm : X.mg x = some (.ref f)) (hk : PySem.W.keepIn (kf X) (.ref f) = true) (hb : Binds (kf X) fd ps []) (tk : Takes X W)
    (ha : PA X (a :: es) (vA (kf X) X.mg G W ts fs)) (hf : Fit ts ms = true := by rfl) (hg : Gl X x := by rfl) (hdb : (x == ("__debug__" : Str)) = false := by decide) (he : starEach (a :: es) X.env = (false, eval a X.env) :: starEach es X.env := by rfl) (hpl : (backTo pos (starEach es X.env)).any (·.1) = false := by rfl) (hpr : rm.pl = true := by rfl) :
    PE X (.Call (.Name x p) (a :: es) [] pos) (vE (kf X) X.mg G W rm.tg (eCall F fs)) := by
  refine pe_weak (pe_callS Fk hr hg hm hk hb (fun σ => passAt tk σ) ha hdb he hpl) fun sg H Q ⟨B0, H0, B, e, S, k⟩ => ?_
  refine ⟨B0, H0, B, e, S, ?_⟩
  unfold eCall at k
  cases ef : fs e with
  | bad => rw [ef] at k; exact k.elim
  | ex c => rw [ef] at k; exact k
  | ok ds =>
    rw [ef] at k
    intro B1 H1 vs x1 r1
    refine ⟨B1, ds, x1.s, args_of x1.s (S.ext.h.trans x1.h) hf r1, ?_⟩
    have k : KE (kf X) X.mg W sg H0 B H Q rm.tg (F ds) := k
    cases eF : F ds with
    | bad => rw [eF] at k; exact k
    | ex c => rw [eF] at k; exact fun B' H' a y hm => k B' H' a (x1.trans y) hm
    | ok d =>
      rw [eF] at k
      exact fun B' H' v y r => k B' H' v (x1.trans y) ((ret_tg hpr r).earlier x1.h)
end
inductive Fl where
  | nx (e : List D) | rt (d : D)
def KS (K : KFr) (mg : Str → Option Value) (G' : List Md) (W : WX) (rm : Rm) (B0 H0 B : Hp) (Dn : Ends) : R Fl → Prop
  | .ok (.nx e') => ∀ sg' B' H', Sta K G' B0 H0 sg' e' B' H' → Same B B' → Dn.nx sg' H'
  | .ok (.rt d) => ∀ B' H' v, Ext B0 H0 B' H' → RetT K H0 B' H' rm v d → Dn.rt v H'
  | .ex c => ∀ B' H' a sg', Ext B0 H0 B' H' → mg c = some (.ref a) → W (.ref a) none sg' H'
  | .bad => False
def vS (K : KFr) (mg : Str → Option Value) (G G' : List Md) (W : WX) (rm : Rm) (g : List D → R Fl) : TS := fun Dn sg H =>
  ∃ B0 H0 B e, Sta K G B0 H0 sg e B H ∧ KS K mg G' W rm B0 H0 B Dn (g e)
theorem KS.later {K : KFr} {mg : Str → Option Value} {G' : List Md} {W : WX} {rm : Rm} {B0 H0 B B1 : Hp} {Dn : Ends} {r : R Fl} (k : KS K mg G' W rm B0 H0 B Dn r) (s : Same B B1) : KS K mg G' W rm B0 H0 B1 Dn r := by
  cases r with
  | ok fl =>
    cases fl with
    | nx e => exact fun sg' B' H' S' s' => k sg' B' H' S' (s.trans s')
    | rt d => exact k
  | ex c => exact k
  | bad => exact k
@[simp] def sNil (e : List D) : R Fl := .ok (.nx e)
def Fl.thn : Fl → (List D → R Fl) → R Fl
  | .nx e, g => g e
  | .rt d, _ => .ok (.rt d)
@[simp] theorem Fl.thn_nx (e : List D) (g : List D → R Fl) : (Fl.nx e).thn g = g e := rfl
@[simp] theorem Fl.thn_rt (d : D) (g : List D → R Fl) : (Fl.rt d).thn g = .ok (.rt d) := rfl
@[simp] def sSeq (g1 g2 : List D → R Fl) (e : List D) : R Fl := (g1 e).bind fun fl => fl.thn g2
@[simp] def sAsg (i : Nat) (f : List D → R D) (e : List D) : R Fl := (f e).bind fun d => .ok (.nx (e.set i d))
@[simp] def sRet (f : List D → R D) (e : List D) : R Fl := (f e).bind fun d => .ok (.rt d)
@[simp] def sDrop (f : List D → R D) (e : List D) : R Fl := (f e).bind fun _ => .ok (.nx e)
@[simp] def sIf (c : List D → R Bool) (g1 g2 : List D → R Fl) (e : List D) : R Fl := (c e).bind fun b => if b then g1 e else g2 e
@[simp] def sRaise (c : Str) (_ : List D) : R Fl := .ex c
section
variable {K : KFr} {G G' : List Md} {B0 H0 B H : Hp} {sg : St} {e : List D}
theorem get_set {α : Type} {l : List α} {i j : Nat} {x y : α} (h : (l.set i x)[j]? = some y) : (i = j ∧ x = y) ∨ l[j]? = some y := by
  by_cases e : i = j
  · subst e
    by_cases hi : i < l.length
    · rw [List.getElem?_set_self hi] at h
      exact .inl ⟨rfl, Option.some.inj h⟩
    · rw [List.set_eq_of_length_le (by omega)] at h
      exact .inr h
  · rw [List.getElem?_set_ne e] at h
    exact .inr h
theorem Sta.set (S : Sta K G B0 H0 sg e B H) (i : Nat) {m : Md} {v : V} {d : D} (h : Slot K H0 B H m (some v) d)
    (hd : isO m = true → ∀ j n w a, G[j]? = some n → isO n = true → sg[j]? = some (some w) → Ft B H v a → Ft B H w a → i = j) : Sta K (G.set i m) B0 H0 (sg.set i (some v)) (e.set i d) B H := by
  refine ⟨S.ext, S.sl.set h i, fun j1 j2 m1 m2 v1 v2 a g1 o1 g2 o2 s1 s2 f1 f2 => ?_⟩
  have l : i < G.length → i < sg.length := fun z => by rw [S.sl.len.1]; exact z
  by_cases e1 : i = j1
  · subst e1
    by_cases e2 : i = j2
    · exact e2
    · rw [List.getElem?_set_ne e2] at g2 s2
      have hi : i < G.length := by
        by_cases hi : i < G.length
        · exact hi
        · rw [List.set_eq_of_length_le (by omega)] at g1
          have := (List.getElem?_eq_some_iff.mp g1).1
          exact absurd this hi
      rw [List.getElem?_set_self hi] at g1
      rw [List.getElem?_set_self (l hi)] at s1
      have em : m = m1 := Option.some.inj g1
      have ev : v = v1 := Option.some.inj (Option.some.inj s1)
      subst em ev
      exact hd o1 j2 m2 v2 a g2 o2 s2 f1 f2
  · by_cases e2 : i = j2
    · subst e2
      rw [List.getElem?_set_ne e1] at g1 s1
      have hi : i < G.length := by
        by_cases hi : i < G.length
        · exact hi
        · rw [List.set_eq_of_length_le (by omega)] at g2
          have := (List.getElem?_eq_some_iff.mp g2).1
          exact absurd this hi
      rw [List.getElem?_set_self hi] at g2
      rw [List.getElem?_set_self (l hi)] at s2
      have em : m = m2 := Option.some.inj g2
      have ev : v = v2 := Option.some.inj (Option.some.inj s2)
      subst em ev
      exact (hd o2 j1 m1 v1 a g1 o1 s1 f2 f1).symm
    · rw [List.getElem?_set_ne e1] at g1 s1
      rw [List.getElem?_set_ne e2] at g2 s2
      exact S.ds j1 j2 m1 m2 v1 v2 a g1 o1 g2 o2 s1 s2 f1 f2
theorem Sta.ft_some (S : Sta K G B0 H0 sg e B H) {j : Nat} {n : Md} {w : V} {a : Addr} (g : G[j]? = some n) (o : isO n = true) (s : sg[j]? = some (some w)) (f : Ft B H w a) : H a ≠ none := by
  obtain ⟨x, d, h1, h2, h3⟩ := S.sl.get g
  rw [s] at h1
  cases h1
  cases n with
  | ow =>
    cases w with
    | ref p =>
      have := h3.2.2.ft h3.2.1 f
      subst this
      exact h3.2.2.isSome
    | _ => exact h3.elim
  | dp => exact h3.1.trk S.ext.s f
  | dq w => exact h3.1.1.trk S.ext.s f
  | _ => cases o
def leM : Md → Md → Bool
  | _, .un => true
  | .im, .im => true
  | .ar, .ar => true
  | .ow, .ow => true
  | .dp, .dp => true
  | .dq v, .dq w => decide (v = w)
  | .fn a, .fn b => decide (a = b)
  | .aq v, .aq w => decide (v = w)
  | _, _ => false
def leG : List Md → List Md → Bool
  | [], [] => true
  | m :: ms, n :: ns => leM m n && leG ms ns
  | _, _ => false
theorem Slot.le : ∀ {m n : Md} {x : Option V} {d : D}, leM m n = true → Slot K H0 B H m x d → Slot K H0 B H n x d := fun {m n x d} h s => by
  cases n with
  | un => exact trivial
  | dq w => cases m with
    | dq v =>
      have e : v = w := of_decide_eq_true h
      subst e
      exact s
    | _ => exact absurd h Bool.false_ne_true
  | fn w => cases m with
    | fn v =>
      have e : v = w := of_decide_eq_true h
      subst e
      exact s
    | _ => exact absurd h Bool.false_ne_true
  | aq w => cases m with
    | aq v =>
      have e : v = w := of_decide_eq_true h
      subst e
      exact s
    | _ => exact absurd h Bool.false_ne_true
  | _ => cases m <;> first | exact s | exact absurd h Bool.false_ne_true
theorem Slots.le : ∀ {ms ns : List Md} {xs : List (Option V)} {ds : List D}, leG ms ns = true → Slots K H0 B H ms xs ds → Slots K H0 B H ns xs ds
  | [], [], [], [], _, _ => trivial
  | _ :: _, _ :: _, _ :: _, _ :: _, h, ⟨s, r⟩ => by
    have h : (leM _ _ && leG _ _) = true := h
    rw [Bool.and_eq_true] at h
    exact ⟨Slot.le h.1 s, Slots.le h.2 r⟩
theorem leG_o : ∀ {ms ns : List Md} {i : Nat} {n : Md}, leG ms ns = true → ns[i]? = some n → isO n = true → ms[i]? = some n
  | [], [], _, _, _, h, _ => h
  | m :: _, n :: _, 0, n', h, g, o => by
    have h : (leM _ _ && leG _ _) = true := h
    rw [Bool.and_eq_true] at h
    have e : n = n' := Option.some.inj g
    subst e
    cases n <;> first | exact absurd o Bool.false_ne_true | (cases m <;> first | rfl | exact absurd h.1 Bool.false_ne_true | exact congrArg (fun z => some (Md.dq z)) (of_decide_eq_true h.1))
  | _ :: _, _ :: _, i + 1, n', h, g, o => by
    have h : (leM _ _ && leG _ _) = true := h
    rw [Bool.and_eq_true] at h
    exact leG_o (i := i) h.2 (by simpa using g) o
theorem Sta.le (S : Sta K G B0 H0 sg e B H) (h : leG G G' = true) : Sta K G' B0 H0 sg e B H := ⟨S.ext, S.sl.le h, fun i j m n v w a g1 o1 g2 o2 s1 s2 f1 f2 => S.ds i j m n v w a (leG_o h g1 o1) o1 (leG_o h g2 o2) o2 s1 s2 f1 f2⟩
end
section
variable {X : Cx} {G G1 G' : List Md} {W : WX} {rm : Rm} {pos : Pos} {a : Expr} {st : Stmt} {rest : List Stmt} {f : List D → R D} {g g1 g2 : List D → R Fl} {c : List D → R Bool}
theorem vs_nil : PSs X [] (vS (kf X) X.mg G G W rm sNil) := pss_weak pss_nil fun Dn sg H ⟨B0, H0, B, e, S, k⟩ => k sg B H S (Same.refl _)
theorem vs_cons (h1 : PS X st (vS (kf X) X.mg G G1 W rm g1)) (h2 : PSs X rest (vS (kf X) X.mg G1 G' W rm g2)) : PSs X (st :: rest) (vS (kf X) X.mg G G' W rm (sSeq g1 g2)) := by
  refine pss_weak (pss_cons h1 h2) fun Dn sg H ⟨B0, H0, B, e, S, k⟩ => ⟨B0, H0, B, e, S, ?_⟩
  unfold sSeq at k
  cases eg : g1 e with
  | bad => rw [eg] at k; exact k
  | ex c => rw [eg] at k; exact k
  | ok fl =>
    rw [eg] at k
    cases fl with
    | nx e1 => exact fun sg' B' H' S' s' => ⟨B0, H0, B', e1, S', KS.later k s'⟩
    | rt d => exact k
theorem vs_one (h1 : PS X st (vS (kf X) X.mg G G' W rm g1)) : PSs X [st] (vS (kf X) X.mg G G' W rm g1) := pss_one h1
theorem Slots.turn {K : KFr} {H0 B H B' H' : Hp} {m' : Md} {d' : D} : ∀ {ms : List Md} {xs : List (Option V)} {ds : List D} (n : Nat), Slots K H0 B H ms xs ds → (∀ (j : Nat) m x d, j ≠ n → ms[j]? = some m → xs[j]? = some x → Slot K H0 B H m x d → Slot K H0 B' H' m x d) → (∀ x, xs[n]? = some x → Slot K H0 B' H' m' x d') → Slots K H0 B' H' (ms.set n m') xs (ds.set n d')
  | [], [], [], _, _, _, _ => trivial
  | m :: ms, x :: xs, d :: ds, 0, ⟨s, r⟩, hk, hn => by
    refine ⟨hn x rfl, ?_⟩
    have go : ∀ {ms : List Md} {xs : List (Option V)} {ds : List D}, Slots K H0 B H ms xs ds → (∀ (j : Nat) m x d, ms[j]? = some m → xs[j]? = some x → Slot K H0 B H m x d → Slot K H0 B' H' m x d) → Slots K H0 B' H' ms xs ds := by
      intro ms
      induction ms with
      | nil => intro xs ds s _; cases xs <;> cases ds <;> first | trivial | exact s.elim
      | cons m ms ih =>
        intro xs ds s hk
        cases xs with
        | nil => exact s.elim
        | cons x xs =>
          cases ds with
          | nil => exact s.elim
          | cons d ds => exact ⟨hk 0 m x d rfl rfl s.1, ih s.2 fun j m x d a b => hk (j + 1) m x d (by simpa using a) (by simpa using b)⟩
    exact go r fun j m x d a b => hk (j + 1) m x d (by omega) (by simpa using a) (by simpa using b)
  | m :: ms, x :: xs, d :: ds, n + 1, ⟨s, r⟩, hk, hn => ⟨hk 0 m x d (by omega) rfl rfl s, Slots.turn n r (fun j m x d h a b => hk (j + 1) m x d (by omega) (by simpa using a) (by simpa using b)) fun x h => hn x (by simpa using h)⟩
theorem set_get_same {α : Type} {l : List α} {i : Nat} {x : α} (h : l[i]? = some x) : l.set i x = l := by
  apply List.ext_getElem?
  intro j
  by_cases e : i = j
  · subst e
    rw [List.getElem?_set_self (List.getElem?_eq_some_iff.mp h).1, h]
  · rw [List.getElem?_set_ne e]
variable {i : Nat} {x : Str} {pos' : Pos} {m : Tg}
theorem ks_ex {K : KFr} {mg : Str → Option Value} {B0 H0 B H : Hp} {sg : St} {e : List D} {Dn : Ends} {c : Str} (S : Sta K G B0 H0 sg e B H) (k : KS K mg G' W rm B0 H0 B Dn (.ex c)) : ∀ B' H' a, Ext B H B' H' → mg c = some (.ref a) → W (.ref a) none sg H' :=
  fun B' H' a y hm => k B' H' a sg (S.ext.trans y) hm
theorem asg_im {K : KFr} {mg : Str → Option Value} (Dn : Ends) (sg : St) (H : Hp) (h : vS K mg G (G.set i .im) W rm (sAsg i f) Dn sg H) : tAsg (vE K mg G W .im f) (gName i) Dn sg H := by
  obtain ⟨B0, H0, B, e, S, k⟩ := h
  refine seq1 (P := KS K mg (G.set i .im) W rm B0 H0 B Dn) S k (fun c k => ks_ex S k) (fun k => k) fun B1 H1 x d x1 S1 r1 k1 => ?_
  exact k1 _ B1 H1 (S1.set i (m := .im) r1 (fun z => by cases z)) x1.b
theorem asg_ow {K : KFr} {mg : Str → Option Value} (Dn : Ends) (sg : St) (H : Hp) (h : vS K mg G (G.set i .ow) W rm (sAsg i f) Dn sg H) : tAsg (vE K mg G W .fr f) (gName i) Dn sg H := by
  obtain ⟨B0, H0, B, e, S, k⟩ := h
  refine seq1 (P := KS K mg (G.set i .ow) W rm B0 H0 B Dn) S k (fun c k => ks_ex S k) (fun k => k) fun B1 H1 x d x1 S1 r1 k1 => ?_
  obtain ⟨p, rfl, hp, hb, ho⟩ := r1
  refine k1 _ B1 H1 (S1.set i (m := .ow) ⟨S.ext.h.free hp, hb, ho⟩ fun _ j n w a gj oj sj f1 f2 => ?_) x1.b
  obtain ⟨x', d', q1, _, q3⟩ := S.sl.get gj
  rw [sj] at q1
  cases q1
  have := ho.ft hb f1
  subst this
  exact absurd hp (S.ft_some gj oj sj (Slot.back x1.b x1.h x1.n oj q3 f2))
theorem vs_set (he : PE X a (vE (kf X) X.mg G W .im f)) (hN : X.N.Nodup) (hi : X.N[i]? = some x := by rfl) (hx : Loc X.env.scope x := by first | exact Or.inl rfl | exact Or.inr rfl) (hs : swapsWith a (some (.Name x pos')) pos.line X.env = pure false := by rfl)
    (hf : X.fn x = true ∨ X.env.scope.names.lookup x = some .local := by first | exact .inl rfl | exact .inr rfl) : PS X (.Assign [.Name x pos'] a pos) (vS (kf X) X.mg G (G.set i .im) W rm (sAsg i f)) := ps_weak (ps_set hN hi hx he hs hf) asg_im
theorem vs_setOw (he : PE X a (vE (kf X) X.mg G W .fr f)) (hN : X.N.Nodup) (hi : X.N[i]? = some x := by rfl) (hx : Loc X.env.scope x := by first | exact Or.inl rfl | exact Or.inr rfl) (hs : swapsWith a (some (.Name x pos')) pos.line X.env = pure false := by rfl)
    (hf : X.fn x = true ∨ X.env.scope.names.lookup x = some .local := by first | exact .inl rfl | exact .inr rfl) : PS X (.Assign [.Name x pos'] a pos) (vS (kf X) X.mg G (G.set i .ow) W rm (sAsg i f)) := ps_weak (ps_set hN hi hx he hs hf) asg_ow
theorem vs_ret (he : PE X a (vE (kf X) X.mg G W .im f)) : PS X (.Return (some a) pos) (vS (kf X) X.mg G G' W .im (sRet f)) := by
  refine ps_weak (ps_ret he) fun Dn sg H ⟨B0, H0, B, e, S, k⟩ => ?_
  exact seq1 (P := KS (kf X) X.mg G' W .im B0 H0 B Dn) S k (fun c k => ks_ex S k) (fun k => k) fun B1 H1 x d x1 S1 r1 k1 => k1 B1 H1 x S1.ext r1
theorem vs_retFr (he : PE X a (vE (kf X) X.mg G W .fr f)) : PS X (.Return (some a) pos) (vS (kf X) X.mg G G' W .fr (sRet f)) := by
  refine ps_weak (ps_ret he) fun Dn sg H ⟨B0, H0, B, e, S, k⟩ => ?_
  exact seq1 (P := KS (kf X) X.mg G' W .fr B0 H0 B Dn) S k (fun c k => ks_ex S k) (fun k => k) fun B1 H1 x d x1 S1 r1 k1 => by
    obtain ⟨p, rfl, hp, hb, ho⟩ := r1
    exact k1 B1 H1 _ S1.ext ⟨p, rfl, S.ext.h.free hp, hb, ho⟩
theorem vs_retOw {pn : Pos} (hG : G[i]? = some .ow := by rfl) (hN : X.N[i]? = some x := by rfl) (hv : Vis X.env.scope x := by first | exact Or.inl rfl | exact Or.inr (Or.inl rfl) | exact Or.inr (Or.inr rfl)) (hd : (x == ("__debug__" : Str)) = false := by decide)
    (hcd : (x == ("__classdict__" : Str)) = false := by decide) : PS X (.Return (some (.Name x pn)) pos) (vS (kf X) X.mg G G' W .fr (sRet (eVar i))) := by
  refine ps_weak (ps_ret (pe_var hN hv hd hcd)) fun Dn sg H ⟨B0, H0, B, e, S, k⟩ => ?_
  obtain ⟨v, d, h1, h2, h3⟩ := S.sl.get hG
  unfold sRet eVar at k
  rw [h2] at k
  obtain ⟨p, rfl, hp, hb, ho⟩ := h3.own
  exact ⟨.ref p, h1, k B H _ S.ext ⟨p, rfl, hp, hb, ho⟩⟩
theorem vs_expr (he : PE X a (vE (kf X) X.mg G W m f)) (hs : swapsWith a none pos.line X.env = pure false := by rfl) : PS X (.Expr a pos) (vS (kf X) X.mg G G W rm (sDrop f)) := by
  refine ps_weak (ps_expr he hs) fun Dn sg H ⟨B0, H0, B, e, S, k⟩ => ?_
  exact seq1 (P := KS (kf X) X.mg G W rm B0 H0 B Dn) S k (fun c k => ks_ex S k) (fun k => k) fun B1 H1 x d x1 S1 r1 k1 => k1 sg B1 H1 S1 x1.b
theorem vs_if {cc : Expr} {sa sb : List Stmt} (hc : PT X cc (vT (kf X) X.mg G W c)) (ha : PSs X sa (vS (kf X) X.mg G G' W rm g1)) (hb : PSs X sb (vS (kf X) X.mg G G' W rm g2)) : PS X (.If cc sa sb pos) (vS (kf X) X.mg G G' W rm (sIf c g1 g2)) := by
  refine ps_weak (ps_if hc ha hb) fun Dn sg H ⟨B0, H0, B, e, S, k⟩ => ?_
  refine seqT (P := KS (kf X) X.mg G' W rm B0 H0 B Dn) S k (fun c k => ks_ex S k) (fun k => k) fun B1 H1 b x1 S1 k1 => ?_
  cases b with
  | true => exact iteT ⟨B0, H0, B1, e, S1, KS.later k1 x1.b⟩
  | false => exact iteF ⟨B0, H0, B1, e, S1, KS.later k1 x1.b⟩
theorem vs_raise {C : Addr} {n : Str} {ms' : Str} {jj : Nat} {bmB : List Value} {Bn newId initId : String} {p1 p2 p3 : Pos} (hc : X.calm = true) (tk : Takes X W) (F : ExcBaseFacts Bn newId initId bmB) (q : PySem.W.excIn (kf X) C bmB newId = true) (gC : X.mg n = some (.ref C)) (kC : PySem.W.keepIn (kf X) (.ref C) = true) (r : Raises X (.ref C)) (hg : Gl X n := by rfl)
    (hdb : (n == ("__debug__" : Str)) = false := by decide) : PS X (.Raise (some (.Call (.Name n p1) [.Constant (.str ms') jj p2] [] p3)) none pos) (vS (kf X) X.mg G G' W rm (sRaise n)) :=
  ps_weak (ps_raise hc tk (pmk_own F q gC kC r hg hdb)) fun Dn sg H ⟨B0, H0, B, e, S, k⟩ => k B H C sg S.ext gC
end
def startG (ms : List Pm) (n : Nat) : List Md := ms.map Pm.md ++ List.replicate (n - ms.length) .un
def Fl.fin : Fl → R D
  | .nx _ => .ok .non
  | .rt d => .ok d
def Fl.finr : Fl → R D
  | .nx _ => .bad
  | .rt d => .ok d
@[simp] theorem Fl.fin_nx (e : List D) : (Fl.nx e).fin = .ok .non := rfl
@[simp] theorem Fl.fin_rt (d : D) : (Fl.rt d).fin = .ok d := rfl
@[simp] theorem Fl.finr_nx (e : List D) : (Fl.nx e).finr = .bad := rfl
@[simp] theorem Fl.finr_rt (d : D) : (Fl.rt d).finr = .ok d := rfl
@[simp] def runF (n : Nat) (g : List D → R Fl) (ds : List D) : R D := (g (ds ++ List.replicate (n - ds.length) .non)).bind Fl.fin
@[simp] def runFr (n : Nat) (g : List D → R Fl) (ds : List D) : R D := (g (ds ++ List.replicate (n - ds.length) .non)).bind Fl.finr
theorem slots_args {K : KFr} {B H : Hp} : ∀ {ms : List Pm} {vs : List V} {ds : List D}, Args K B H ms vs ds → ∀ (n : Nat), Slots K H B H (ms.map Pm.md ++ List.replicate n .un) (vs.map some ++ List.replicate n none) (ds ++ List.replicate n .non)
  | [], [], [], _, n => by
    induction n with
    | zero => trivial
    | succ n ih => exact ⟨trivial, ih⟩
  | .im :: _, _ :: _, _ :: _, ⟨h, r⟩, n => ⟨h, slots_args r n⟩
  | .ar :: _, _ :: _, _ :: _, ⟨h, r⟩, n => ⟨h, slots_args r n⟩
theorem startG_noow {ms : List Pm} {n i : Nat} {m : Md} (h : (startG ms n)[i]? = some m) (o : isO m = true) : False := by
  have hm := List.mem_of_getElem? h
  unfold startG at hm
  rcases List.mem_append.mp hm with z | z
  · obtain ⟨p, _, e⟩ := List.mem_map.mp z
    cases p <;> (have e : _ = m := e; subst e; cases o)
  · have := List.eq_of_mem_replicate z
    subst this
    cases o
section
variable {P : Program} {w : World} {K : PySem.W.Frag} {mg : Str → Option Value} {base : Heap} {x qual : Str} {st : Stmt} {f : Addr} {fd : FuncData} {N ps : List Str} {k : Nat} {ms : List Pm} {G' : List Md} {g : List D → R Fl}
theorem okV {M : List D → R D} (F : Fun K x qual st f fd) (S : FnScope N ps (defScope st)) (hl : ms.length = ps.length) (hM : M = runF N.length g)
    (hbody : ∀ (cdv : Value) (A : Around) (outer : List Env) (s : Shared) (H : Hp) (E : XK), Room k (A.deeper (envOfC qual (defScope st) s.heap.objs.size f cdv)) →
      PSs (cxOf (L2.CX P w) P w K mg base N qual (defScope st) f cdv A outer s H E) (defBody st) (vS ⟨K, P, w⟩ mg (startG ms N.length) G' (fun cls d _ H => E cls d H) .im g)) :
    FnOk P w K mg base (L2.CX P w) (k + 1) f fd ps (spF ⟨K, P, w⟩ mg ms .im M) := by
  subst hM
  refine F.okX S (fun vs H Q E h => ?_) (fun cdv A outer s H vs Q E hr h => ⟨_, hbody cdv A outer s H E hr, ?_⟩)
  · obtain ⟨B, ds, _, ha, _⟩ := h
    rw [ha.len.1, hl]
  · obtain ⟨B, ds, sb, ha, kf⟩ := h
    have e1 : vs.length = ds.length := by rw [ha.len.1, ha.len.2]
    have hS := slots_args ha (N.length - ms.length)
    refine ⟨B, H, B, ds ++ List.replicate (N.length - ds.length) .non, ⟨.refl sb, ?_, fun i j m n v w a g1 o1 => (startG_noow g1 o1).elim⟩, ?_⟩
    · rw [show N.length - ds.length = N.length - ms.length by rw [ha.len.2]]
      unfold start startG
      rw [show N.length - vs.length = N.length - ms.length by rw [ha.len.1]]
      exact hS
    · unfold runF at kf
      cases eg : g (ds ++ List.replicate (N.length - ds.length) .non) with
      | bad => rw [eg] at kf; exact kf
      | ex c => rw [eg] at kf; exact fun B' H' a sg' y hm => kf B' H' a y hm
      | ok fl =>
        rw [eg] at kf
        cases fl with
        | nx e' => exact fun sg' B' H' S' _ => kf B' H' _ S'.ext .non
        | rt d => exact kf
theorem okVr {M : List D → R D} (F : Fun K x qual st f fd) (S : FnScope N ps (defScope st)) (hl : ms.length = ps.length) (hM : M = runFr N.length g)
    (hbody : ∀ (cdv : Value) (A : Around) (outer : List Env) (s : Shared) (H : Hp) (E : XK), Room k (A.deeper (envOfC qual (defScope st) s.heap.objs.size f cdv)) →
      PSs (cxOf (L2.CX P w) P w K mg base N qual (defScope st) f cdv A outer s H E) (defBody st) (vS ⟨K, P, w⟩ mg (startG ms N.length) G' (fun cls d _ H => E cls d H) .fr g)) :
    FnOk P w K mg base (L2.CX P w) (k + 1) f fd ps (spF ⟨K, P, w⟩ mg ms .fr M) := by
  subst hM
  refine F.okX S (fun vs H Q E h => ?_) (fun cdv A outer s H vs Q E hr h => ⟨_, hbody cdv A outer s H E hr, ?_⟩)
  · obtain ⟨B, ds, _, ha, _⟩ := h
    rw [ha.len.1, hl]
  · obtain ⟨B, ds, sb, ha, kf⟩ := h
    have hS := slots_args ha (N.length - ms.length)
    refine ⟨B, H, B, ds ++ List.replicate (N.length - ds.length) .non, ⟨.refl sb, ?_, fun i j m n v w a g1 o1 => (startG_noow g1 o1).elim⟩, ?_⟩
    · rw [show N.length - ds.length = N.length - ms.length by rw [ha.len.2]]
      unfold start startG
      rw [show N.length - vs.length = N.length - ms.length by rw [ha.len.1]]
      exact hS
    · unfold runFr at kf
      cases eg : g (ds ++ List.replicate (N.length - ds.length) .non) with
      | bad => rw [eg] at kf; exact kf
      | ex c => rw [eg] at kf; exact fun B' H' a sg' y hm => kf B' H' a y hm
      | ok fl =>
        rw [eg] at kf
        cases fl with
        | nx e' => exact kf.elim
        | rt d => exact kf
end
end L2.VL
set_option Elab.async false
set_option linter.all false
set_option maxRecDepth 100000
set_option maxHeartbeats 4000000
namespace L2.VL
open PySem PySem.Spec PyProof.Rows
theorem or_op {X : Cx} {f : Value → Value → Sem Value} {r r' : R2} (h : OpR X f r) (h' : OpR X f r') : OpR X f (fun x y H Q => r x y H Q ∨ r' x y H Q) := by
  intro pins s σ H x y v u Q I rx ry q
  rcases q with q | q
  · exact h pins s σ H x y v u Q I rx ry q
  · exact h' pins s σ H x y v u Q I rx ry q
def gI (h : Int → Int → Option D) : D → D → Option D
  | .int i, .int j => h i j
  | _, _ => none
section
variable {K : KFr}
theorem does_I {C : Int → Int → Prop} {gv : Int → Int → V} {h : Int → Int → Option D} (hh : ∀ i j d, h i j = some d → C i j ∧ ∀ B, Rep false K B (gv i j) d) : Does2 K (rI C gv) (gI h) := by
  intro H x y d1 d2 d Q r1 r2 e q
  cases r1 with
  | int i =>
    cases r2 with
    | int j =>
      obtain ⟨hc, hr⟩ := hh i j d e
      exact ⟨i, j, rfl, rfl, hc, q _ hr⟩
    | _ => exact absurd e (by simp [gI])
  | _ => exact absurd e (by simp [gI])
theorem does_I0 {gv : Int → Int → V} {h : Int → Int → Option D} (hh : ∀ i j d, h i j = some d → ∀ B, Rep false K B (gv i j) d) : Does2 K (rI0 gv) (gI h) := by
  intro H x y d1 d2 d Q r1 r2 e q
  cases r1 with
  | int i =>
    cases r2 with
    | int j => exact ⟨i, j, rfl, rfl, q _ (hh i j d e)⟩
    | _ => exact absurd e (by simp [gI])
  | _ => exact absurd e (by simp [gI])
end
instance decMulOk (i j : Int) : Decidable (IntMulOk i j) := by
  unfold IntMulOk
  infer_instance
instance decCPow (i j : Int) : Decidable (CPow i j) := by
  unfold CPow
  infer_instance
instance decCShl (i j : Int) : Decidable (CShl i j) := by
  unfold CShl
  infer_instance
instance decCDivP (i j : Int) : Decidable (CDivP i j) := by
  unfold CDivP
  infer_instance
def gSub : D → D → Option D := gI fun i j => some (.int (i - j))
def gMul : D → D → Option D := gI fun i j => if IntMulOk i j then some (.int (i * j)) else none
def gFdiv : D → D → Option D := gI fun i j => if CDivP i j then some (.int (i / j)) else none
def gMod : D → D → Option D := gI fun i j => if 0 < j then some (.int (i % j)) else none
def gPow : D → D → Option D := gI fun i j => if CPow i j then some (.int (i ^ j.toNat)) else none
def gShl : D → D → Option D := gI fun i j => if CShl i j then some (.int (i * 2 ^ j.toNat)) else none
def gShr : D → D → Option D := gI fun i j => if 0 ≤ j then some (.int (i / 2 ^ j.toNat)) else none
def gBitAnd : D → D → Option D := gI fun i j => some (.int (Builtin.bitAnd i j))
def gLt : D → D → Option D := gI fun i j => some (.bl (decide (i < j)))
def gLe : D → D → Option D := gI fun i j => some (.bl (decide (i ≤ j)))
def gGt : D → D → Option D := gI fun i j => some (.bl (decide (j < i)))
def gGe : D → D → Option D := gI fun i j => some (.bl (decide (j ≤ i)))
def gAdd : D → D → Option D
  | .int i, .int j => some (.int (i + j))
  | .str x, .str y => if x.length + y.length ≤ sizeLine then some (.str (x ++ y)) else none
  | _, _ => none
@[simp] theorem gSub_int (i j : Int) : gSub (.int i) (.int j) = some (.int (i - j)) := rfl
@[simp] theorem gMul_int (i j : Int) : gMul (.int i) (.int j) = if IntMulOk i j then some (.int (i * j)) else none := rfl
@[simp] theorem gFdiv_int (i j : Int) : gFdiv (.int i) (.int j) = if CDivP i j then some (.int (i / j)) else none := rfl
@[simp] theorem gMod_int (i j : Int) : gMod (.int i) (.int j) = if 0 < j then some (.int (i % j)) else none := rfl
@[simp] theorem gPow_int (i j : Int) : gPow (.int i) (.int j) = if CPow i j then some (.int (i ^ j.toNat)) else none := rfl
@[simp] theorem gShl_int (i j : Int) : gShl (.int i) (.int j) = if CShl i j then some (.int (i * 2 ^ j.toNat)) else none := rfl
@[simp] theorem gShr_int (i j : Int) : gShr (.int i) (.int j) = if 0 ≤ j then some (.int (i / 2 ^ j.toNat)) else none := rfl
@[simp] theorem gBitAnd_int (i j : Int) : gBitAnd (.int i) (.int j) = some (.int (Builtin.bitAnd i j)) := rfl
@[simp] theorem gLt_int (i j : Int) : gLt (.int i) (.int j) = some (.bl (decide (i < j))) := rfl
@[simp] theorem gLe_int (i j : Int) : gLe (.int i) (.int j) = some (.bl (decide (i ≤ j))) := rfl
@[simp] theorem gGt_int (i j : Int) : gGt (.int i) (.int j) = some (.bl (decide (j < i))) := rfl
@[simp] theorem gGe_int (i j : Int) : gGe (.int i) (.int j) = some (.bl (decide (j ≤ i))) := rfl
@[simp] theorem gAdd_int (i j : Int) : gAdd (.int i) (.int j) = some (.int (i + j)) := rfl
@[simp] theorem gAdd_str (x y : Str) : gAdd (.str x) (.str y) = if x.length + y.length ≤ sizeLine then some (.str (x ++ y)) else none := rfl
section
variable {X : Cx}
theorem op_mulOk : OpR X (binaryOp .Mult) (rI IntMulOk fun i j => .int (i * j)) := opI fun _ _ _ _ _ _ _ hc q => mul_int q hc
theorem iop_mulOk : OpR X (inplaceOp .Mult) (rI IntMulOk fun i j => .int (i * j)) := opI fun _ _ _ _ _ _ _ hc q => imul_int q hc
theorem op_fdivP : OpR X (binaryOp .FloorDiv) (rI CDivP fun i j => .int (i / j)) := opI fun i j _ _ _ _ _ hc q => by
  have h1 : (0 : Int) < j := hc.1
  exact floordiv_int (by omega) (by rw [Int.fdiv_eq_ediv_of_nonneg i (by omega)]; exact q) (.inl hc.2)
variable {K : KFr}
theorem d_sub : Does2 K (rI0 fun i j => .int (i - j)) gSub := does_I0 fun i j d e B => by cases e; exact .int _
theorem d_mul : Does2 K (rI IntMulOk fun i j => .int (i * j)) gMul := does_I fun i j d e => by
  by_cases h : IntMulOk i j
  · rw [if_pos h] at e; cases e; exact ⟨h, fun _ => .int _⟩
  · rw [if_neg h] at e; cases e
theorem d_fdiv : Does2 K (rI CDivP fun i j => .int (i / j)) gFdiv := does_I fun i j d e => by
  by_cases h : CDivP i j
  · rw [if_pos h] at e; cases e; exact ⟨h, fun _ => .int _⟩
  · rw [if_neg h] at e; cases e
theorem d_mod : Does2 K (rI (fun _ j => 0 < j) fun i j => .int (i % j)) gMod := does_I fun i j d e => by
  by_cases h : 0 < j
  · rw [if_pos h] at e; cases e; exact ⟨h, fun _ => .int _⟩
  · rw [if_neg h] at e; cases e
theorem d_pow : Does2 K (rI CPow fun i j => .int (i ^ j.toNat)) gPow := does_I fun i j d e => by
  by_cases h : CPow i j
  · rw [if_pos h] at e; cases e; exact ⟨h, fun _ => .int _⟩
  · rw [if_neg h] at e; cases e
theorem d_shl : Does2 K (rI CShl fun i j => .int (i * 2 ^ j.toNat)) gShl := does_I fun i j d e => by
  by_cases h : CShl i j
  · rw [if_pos h] at e; cases e; exact ⟨h, fun _ => .int _⟩
  · rw [if_neg h] at e; cases e
theorem d_lt : Does2 K (rI0 fun i j => .bl (decide (i < j))) gLt := does_I0 fun i j d e B => by cases e; exact .bl _
theorem d_gt : Does2 K (rI0 fun i j => .bl (decide (j < i))) gGt := does_I0 fun i j d e B => by cases e; exact .bl _
def rAddF : R2 := fun x y H Q => rI0 (fun i j => .int (i + j)) x y H Q ∨ ∃ a b, x = .str a ∧ y = .str b ∧ a.length + b.length ≤ sizeLine ∧ Q (.str (a ++ b)) H
theorem op_addF : OpR X (binaryOp .Add) rAddF := or_op op_add (by
  intro pins s σ H x y v u Q I rx ry h
  obtain ⟨a, b, e1, e2, hz, q⟩ := h
  exact op_add_str pins s σ H x y v u Q I rx ry ⟨a, b, e1, e2, hz, q⟩)
theorem d_add : Does2 K rAddF gAdd := by
  intro H x y d1 d2 d Q r1 r2 e q
  cases r1 with
  | int i =>
    cases r2 with
    | int j => cases e; exact .inl ⟨i, j, rfl, rfl, q _ fun _ => .int _⟩
    | _ => exact absurd e (by simp [gAdd])
  | str a =>
    cases r2 with
    | str b =>
      have e : (if a.length + b.length ≤ sizeLine then some (D.str (a ++ b)) else none) = some d := e
      by_cases h : a.length + b.length ≤ sizeLine
      · rw [if_pos h] at e; cases e; exact .inr ⟨a, b, rfl, rfl, h, q _ fun _ => .str _⟩
      · rw [if_neg h] at e; cases e
    | _ => exact absurd e (by simp [gAdd])
  | _ => exact absurd e (by simp [gAdd])
def negD : D → R D
  | .int i => .ok (.int (-i))
  | _ => .bad
@[simp] theorem negD_int (i : Int) : negD (.int i) = .ok (.int (-i)) := rfl
mutual
def D.py : D → PyData
  | .non => .none
  | .bl b => .bool b
  | .int i => .int i
  | .str x => .str x
  | .tup ds => .tuple (D.pys ds)
  | .lst ds => .list (D.pys ds)
  | .dic _ => .dict []
  | .tdc _ => .dict []
def D.pys : List D → List PyData
  | [] => []
  | d :: ds => D.py d :: D.pys ds
end
mutual
theorem rep_dp {K : KFr} {H : Hp} : ∀ {v : V} {d : D}, Rep true K H v d → d.py.canLay0 = true → Dp K H v d.py
  | _, _, .non, _ => .non
  | _, _, .bl b, _ => .bl b
  | _, _, .int i, _ => .int i
  | _, _, .str x, _ => .str x
  | _, _, .lst h r, c => .lst (.inl h) (reps_dp r (by simpa [D.py, PyData.canLay0] using c))
  | _, _, .kls _ h r, c => .lst h (reps_dp r (by simpa [D.py, PyData.canLay0] using c))
  | _, _, .tup h r, c => .tup (.inl h.rd) (reps_dp r (by simpa [D.py, PyData.canLay0] using c))
  | _, _, .dic _ _, c => by simp [D.py, PyData.canLay0] at c
  | _, _, .dko _ _ _, c => by simp [D.py, PyData.canLay0] at c
  | _, _, .tdc _ _, c => by simp [D.py, PyData.canLay0] at c
  | _, _, .tko _ _ _, c => by simp [D.py, PyData.canLay0] at c
theorem reps_dp {K : KFr} {H : Hp} : ∀ {vs : List V} {ds : List D}, Reps true K H vs ds → PyData.canLayAll0 (D.pys ds) = true → DpAll K H vs (D.pys ds)
  | _, _, .nil, _ => .nil
  | _, _, .cons h r, c => by
    rw [D.pys, PyData.canLayAll0, Bool.and_eq_true] at c
    rw [D.pys]
    exact .cons (rep_dp h c.1) (reps_dp r c.2)
end
def scalD : D → D → Bool
  | .non, .non => true | .non, .int _ => true | .int _, .non => true | .non, .bl _ => true | .bl _, .non => true | .non, .str _ => true | .str _, .non => true
  | .int _, .int _ => true | .bl _, .bl _ => true | .str _, .str _ => true
  | .int _, .str _ => true | .str _, .int _ => true | .bl _, .str _ => true | .str _, .bl _ => true
  | _, _ => false
def eqF : D → D → Bool
  | .non, .non => true
  | .int i, .int j => decide (i = j)
  | .bl i, .bl j => decide (i = j)
  | .str i, .str j => decide (i = j)
  | _, _ => false
def eqD (a b : D) : Option Bool := if scalD a b then some (eqF a b) else if SeqAt.shaped a.py && SeqAt.shaped b.py then some (PyData.eqv a.py b.py) else none
@[simp] theorem eqD_int (i j : Int) : eqD (.int i) (.int j) = some (decide (i = j)) := rfl
@[simp] theorem eqD_str (i j : Str) : eqD (.str i) (.str j) = some (decide (i = j)) := rfl
@[simp] theorem eqD_bl (i j : Bool) : eqD (.bl i) (.bl j) = some (decide (i = j)) := rfl
@[simp] def gEq (a b : D) : Option D := (eqD a b).map .bl
@[simp] def gNe (a b : D) : Option D := (eqD a b).map fun c => .bl (!c)
def rEqA (K : KFr) : R2 := fun x y H Q => rEq x y H Q ∨ rEqD K x y H Q
def rNeA (K : KFr) : R2 := fun x y H Q => rNe x y H Q ∨ rNeD K x y H Q
theorem op_eqA {k : Nat} (hr : Room k X.A) : OpR X (compareOp .Eq) (rEqA (kf X)) := or_op op_eq (op_eqD hr.units)
theorem op_neA {k : Nat} (hr : Room k X.A) : OpR X (compareOp .NotEq) (rNeA (kf X)) := or_op op_ne (op_neD hr.units)
theorem scal_of {H : Hp} {x y : V} {a b : D} (r1 : Rep true K H x a) (r2 : Rep true K H y b) (h : scalD a b = true) : scal x y = true ∧ decide (x = y) = eqF a b := by
  cases r1 <;> cases r2 <;> first
    | exact (Bool.false_ne_true h).elim
    | (refine ⟨rfl, ?_⟩; simp [eqF])
theorem d_eq : Does2 K (rEqA K) gEq := by
  intro H x y a b d Q r1 r2 e q
  unfold gEq eqD at e
  by_cases h : scalD a b = true
  · rw [if_pos h] at e
    obtain ⟨h1, h2⟩ := scal_of r1 r2 h
    cases e
    refine .inl ⟨h1, ?_⟩
    rw [h2]
    exact q _ fun _ => .bl _
  · rw [if_neg h] at e
    by_cases h2 : (SeqAt.shaped a.py && SeqAt.shaped b.py) = true
    · rw [if_pos h2] at e
      rw [Bool.and_eq_true] at h2
      cases e
      exact .inr ⟨_, _, rep_dp r1 (SeqAt.canLay_of_shaped h2.1), rep_dp r2 (SeqAt.canLay_of_shaped h2.2), h2.1, h2.2, q _ fun _ => .bl _⟩
    · rw [if_neg h2] at e; cases e
theorem d_ne : Does2 K (rNeA K) gNe := by
  intro H x y a b d Q r1 r2 e q
  unfold gNe eqD at e
  by_cases h : scalD a b = true
  · rw [if_pos h] at e
    obtain ⟨h1, h2⟩ := scal_of r1 r2 h
    cases e
    refine .inl ⟨h1, ?_⟩
    rw [h2]
    exact q _ fun _ => .bl _
  · rw [if_neg h] at e
    by_cases h2 : (SeqAt.shaped a.py && SeqAt.shaped b.py) = true
    · rw [if_pos h2] at e
      rw [Bool.and_eq_true] at h2
      cases e
      exact .inr ⟨_, _, rep_dp r1 (SeqAt.canLay_of_shaped h2.1), rep_dp r2 (SeqAt.canLay_of_shaped h2.2), h2.1, h2.2, q _ fun _ => .bl _⟩
    · rw [if_neg h2] at e; cases e
def isNonD : D → Bool
  | .non => true
  | _ => false
def gIs : D → D → Option D
  | a, .non => some (.bl (isNonD a))
  | _, _ => none
def gIsnt : D → D → Option D
  | a, .non => some (.bl (!isNonD a))
  | _, _ => none
@[simp] theorem gIs_non : gIs .non .non = some (.bl true) := rfl
@[simp] theorem gIs_int (i : Int) : gIs (.int i) .non = some (.bl false) := rfl
@[simp] theorem gIs_tup (i : List D) : gIs (.tup i) .non = some (.bl false) := rfl
@[simp] theorem gIs_lst (i : List D) : gIs (.lst i) .non = some (.bl false) := rfl
@[simp] theorem gIs_str (i : Str) : gIs (.str i) .non = some (.bl false) := rfl
@[simp] theorem gIsnt_non : gIsnt .non .non = some (.bl false) := rfl
@[simp] theorem gIsnt_int (i : Int) : gIsnt (.int i) .non = some (.bl true) := rfl
@[simp] theorem gIsnt_tup (i : List D) : gIsnt (.tup i) .non = some (.bl true) := rfl
@[simp] theorem gIsnt_lst (i : List D) : gIsnt (.lst i) .non = some (.bl true) := rfl
@[simp] theorem gIsnt_str (i : Str) : gIsnt (.str i) .non = some (.bl true) := rfl
end
def elT : Tg → Tg
  | .im => .im | .ar => .ar | .lo => .lo | .fr => .im | .oc => .im
def atD : D → D → R D
  | .lst ds, .int k => ofO (atI ds k)
  | .tup ds, .int k => ofO (atI ds k)
  | .str z, .int k => if z.length ≤ sizeLine then ofO ((atI z.cps.toList k).map fun c => .str ⟨#[c]⟩) else .bad
  | _, _ => .bad
@[simp] theorem atD_lst (ds : List D) (k : Int) : atD (.lst ds) (.int k) = ofO (atI ds k) := rfl
@[simp] theorem atD_tup (ds : List D) (k : Int) : atD (.tup ds) (.int k) = ofO (atI ds k) := rfl
@[simp] theorem atD_str (z : Str) (k : Int) : atD (.str z) (.int k) = if z.length ≤ sizeLine then ofO ((atI z.cps.toList k).map fun c => .str ⟨#[c]⟩) else .bad := rfl
@[simp] def eIx (fa fb : List D → R D) (e : List D) : R D := (fa e).bind fun d => (fb e).bind fun i => atD d i
section
variable {K : KFr} {H0 H B H' : Hp}
theorem RepT.lst_at {m : Tg} {v : V} {ds : List D} (r : RepT K H0 H B H' m v (.lst ds)) (s : Same B H') (s0 : Same H0 H') : ∃ p vs, v = .ref p ∧ SqL K H' p vs ∧ vs.length = ds.length ∧ ∀ (j : Nat) d, ds[j]? = some d → ∃ x, vs[j]? = some x ∧ RepT K H0 H B H' (elT m) x d := by
  cases m with
  | im =>
    obtain ⟨a, vs, rfl, h, q⟩ := Rep.sq r
    exact ⟨_, _, rfl, s.seq h, q.length, fun j d e => q.get e⟩
  | ar =>
    obtain ⟨a, vs, rfl, h, q⟩ := Rep.sq r
    exact ⟨_, _, rfl, s0.seq h, q.length, fun j d e => q.get e⟩
  | lo =>
    obtain ⟨a, vs, rfl, h, q⟩ := Rep.sq r
    exact ⟨_, _, rfl, h, q.length, fun j d e => q.get e⟩
  | fr =>
    obtain ⟨p, rfl, _, _, vs, h, q⟩ := r
    exact ⟨p, vs, rfl, SqL.of h, q.length, fun j d e => q.get e⟩
  | oc =>
    obtain ⟨p, rfl, vs, h, q⟩ := r
    exact ⟨p, vs, rfl, SqL.of h, q.length, fun j d e => q.get e⟩
theorem RepT.tup_at {m : Tg} {v : V} {ds : List D} (r : RepT K H0 H B H' m v (.tup ds)) (s : Same B H') (s0 : Same H0 H') : ∃ p vs, v = .ref p ∧ Rd H' p (.tup vs) ∧ vs.length = ds.length ∧ ∀ (j : Nat) d, ds[j]? = some d → ∃ x, vs[j]? = some x ∧ RepT K H0 H B H' (elT m) x d := by
  cases m with
  | im =>
    cases r with
    | tup h q => exact ⟨_, _, rfl, same_rd s h.rd, q.length, fun j d e => q.get e⟩
  | ar =>
    cases r with
    | tup h q => exact ⟨_, _, rfl, same_rd s0 h.rd, q.length, fun j d e => q.get e⟩
  | lo =>
    cases r with
    | tup h q => exact ⟨_, _, rfl, h.rd, q.length, fun j d e => q.get e⟩
  | fr =>
    obtain ⟨p, rfl, _, _, h⟩ := r
    exact h.elim
  | oc =>
    obtain ⟨p, rfl, h⟩ := r
    exact h.elim
theorem atI_of {α β : Type} {xs : List α} {ys : List β} {k : Int} {y : β} (hl : xs.length = ys.length) (h : atI ys k = some y) : ∃ j : Nat, ys[j]? = some y ∧ ∀ x, xs[j]? = some x → atI xs k = some x := by
  unfold atI at h ⊢
  cases e : ixN ys.length k with
  | none => rw [e] at h; cases h
  | some j =>
    rw [e] at h
    refine ⟨j, h, fun x hx => ?_⟩
    rw [hl, e]
    exact hx
theorem RepT.flat {m : Tg} {v : V} {d : D} (hm : m = .im ∨ m = .ar ∨ m = .lo) (h : ∀ B, Rep false K B v d) : RepT K H0 H B H' m v d := by
  rcases hm with rfl | rfl | rfl
  · exact h _
  · exact (h _).wide
  · exact (h _).wide
end
section
variable {X : Cx} {G : List Md} {W : WX} {pos : Pos} {a b : Expr} {fa fb : List D → R D} {ma mb : Tg}
theorem ve_item (ha : PE X a (vE (kf X) X.mg G W ma fa)) (hb : PE X b (vE (kf X) X.mg G W mb fb)) (hp : PlainIx b := by exact fun _ _ => rfl) : PE X (.Subscript a b pos) (vE (kf X) X.mg G W (elT ma) (eIx fa fb)) := by
  refine pe_weak (pe_ix ix_seq ha hb hp) fun sg H Q h => ?_
  refine seq2 (kk := fun d i => atD d i) h fun B0 H0 B e B2 H2 x y d1 d2 S S2 x2 r1 r2 k => ?_
  have s0 : Same H0 H2 := S2.ext.h
  have q2 := r2.all x2.s s0
  cases d2 with
  | int i =>
    cases q2
    cases d1 with
    | lst ds =>
      obtain ⟨p, vs, rfl, hp, hl, hi⟩ := r1.lst_at x2.s s0
      cases ea : atI ds i with
      | none => simp only [atD, ea, ofO] at k; exact k.elim
      | some d =>
        simp only [atD, ea, ofO] at k
        obtain ⟨j, hj, hx⟩ := atI_of hl ea
        obtain ⟨v, hv, rv⟩ := hi j d hj
        exact .inl ⟨p, vs, i, v, rfl, rfl, hp, hx v hv, k B2 H2 v x2 rv⟩
    | tup ds =>
      obtain ⟨p, vs, rfl, hp, hl, hi⟩ := r1.tup_at x2.s s0
      cases ea : atI ds i with
      | none => simp only [atD, ea, ofO] at k; exact k.elim
      | some d =>
        simp only [atD, ea, ofO] at k
        obtain ⟨j, hj, hx⟩ := atI_of hl ea
        obtain ⟨v, hv, rv⟩ := hi j d hj
        exact .inr (.inl ⟨p, vs, i, v, rfl, rfl, .inl hp, hx v hv, k B2 H2 v x2 rv⟩)
    | str z =>
      have q1 := r1.all x2.s s0
      cases q1
      simp only [atD] at k
      by_cases hz : z.length ≤ sizeLine
      · rw [if_pos hz] at k
        cases ea : atI z.cps.toList i with
        | none => rw [ea] at k; exact k.elim
        | some c =>
          rw [ea] at k
          refine .inr (.inr ⟨z, i, c, rfl, rfl, hz, ea, k B2 H2 _ x2 (RepT.flat ?_ fun _ => .str _)⟩)
          cases ma <;> simp [elT]
      · rw [if_neg hz] at k; exact k.elim
    | _ => simp only [atD] at k; exact k.elim
  | _ =>
    cases d1 <;> (simp only [atD] at k; exact k.elim)
end
@[simp] def eTup (fs : List D → R (List D)) (e : List D) : R D := (fs e).bind fun ds => if ds.length ≤ sizeLine then .ok (.tup ds) else .bad
@[simp] def eLst (fs : List D → R (List D)) (e : List D) : R D := (fs e).bind fun ds => if ds.length ≤ sizeLine then .ok (.lst ds) else .bad
def allIm : List Tg → Bool
  | [] => true
  | .im :: ts => allIm ts
  | _ => false
theorem reps_im {K : KFr} {H0 H B H' : Hp} : ∀ {ts : List Tg} {vs : List V} {ds : List D}, allIm ts = true → RepTs K H0 H B H' ts vs ds → Reps false K B vs ds
  | [], [], [], _, _ => .nil
  | .im :: ts, _ :: _, _ :: _, h, ⟨r, rs⟩ => .cons r (reps_im (ts := ts) h rs)
section
variable {X : Cx} {G : List Md} {W : WX} {pos : Pos} {es : List Expr} {fs : List D → R (List D)} {ts : List Tg}
theorem ve_tup {x1} (h : PA X es (vA (kf X) X.mg G W ts fs)) (hi : allIm ts = true := by rfl) : PE X (.Tuple es x1 pos) (vE (kf X) X.mg G W .im (eTup fs)) := by
  refine pe_weak (pe_tupF h) fun sg H Q ⟨B0, H0, B, e, S, k⟩ => ⟨B0, H0, B, e, S, ?_⟩
  unfold eTup at k
  cases ef : fs e with
  | bad => rw [ef] at k; exact k.elim
  | ex c => rw [ef] at k; exact k
  | ok ds =>
    rw [ef, R.bind_ok] at k
    intro B1 H1 vs x1 r1
    have rs := reps_im hi r1
    by_cases hz : ds.length ≤ sizeLine
    · rw [if_pos hz] at k
      refine ⟨by rw [rs.length]; exact hz, fun p o hp ho => ?_⟩
      have x2 : Ext B1 H1 (upd B1 p (.frz o (.tup vs))) (upd H1 p (.frz o (.tup vs))) := .newB x1.s hp
      exact k _ _ _ (x1.trans x2) (.tup ⟨o, upd_same, ho⟩ (rs.mono x2.b))
    · rw [if_neg hz] at k; exact k.elim
theorem ve_lst (h : PA X es (vA (kf X) X.mg G W ts fs)) (hi : allIm ts = true := by rfl) : PE X (.List es pos) (vE (kf X) X.mg G W .fr (eLst fs)) := by
  refine pe_weak (pe_lst h) fun sg H Q ⟨B0, H0, B, e, S, k⟩ => ⟨B0, H0, B, e, S, ?_⟩
  unfold eLst at k
  cases ef : fs e with
  | bad => rw [ef] at k; exact k.elim
  | ex c => rw [ef] at k; exact k
  | ok ds =>
    rw [ef, R.bind_ok] at k
    intro B1 H1 vs x1 r1
    have rs := reps_im hi r1
    by_cases hz : ds.length ≤ sizeLine
    · rw [if_pos hz] at k
      refine ⟨by rw [rs.length]; exact hz, fun p hp => ?_⟩
      have x2 : Ext B1 H1 B1 (upd H1 p (.lst vs)) := .newH x1.s hp
      exact k _ _ _ (x1.trans x2) ⟨p, rfl, x1.h.free hp, x1.s.free hp, vs, upd_same, rs⟩
    · rw [if_neg hz] at k; exact k.elim
end
def DoesN (K : KFr) (r : List V → Hp → VK → Prop) (g : List D → Option D) : Prop := ∀ (H : Hp) (vs : List V) (ds : List D) (d : D) (Q : VK), Reps true K H vs ds → g ds = some d → (∀ v, (∀ B, Rep false K B v d) → Q v H) → r vs H Q
theorem reps_all {K : KFr} {H0 H B H' : Hp} (s : Same B H') (s0 : Same H0 H') : ∀ {ts : List Tg} {vs : List V} {ds : List D}, RepTs K H0 H B H' ts vs ds → Reps true K H' vs ds
  | [], [], [], _ => .nil
  | _ :: _, _ :: _, _ :: _, ⟨r, rs⟩ => .cons (r.all s s0) (reps_all s s0 rs)
@[simp] def eB (g : List D → Option D) (fs : List D → R (List D)) (e : List D) : R D := (fs e).bind fun ds => ofO (g ds)
section
variable {X : Cx} {G : List Md} {W : WX} {p pos : Pos} {a : Expr} {es : List Expr} {fs : List D → R (List D)} {ts : List Tg} {r : List V → Hp → VK → Prop} {g : List D → Option D} {x : Str}
theorem callN_flat {K : KFr} {mg : Str → Option Value} (hd : DoesN K r g) (sg : St) (H : Hp) (Q : VK) (h : vE K mg G W .im (eB g fs) sg H Q) : vA K mg G W ts fs sg H fun vs H1 => r vs H1 Q := by
  obtain ⟨B0, H0, B, e, S, k⟩ := h
  refine ⟨B0, H0, B, e, S, ?_⟩
  unfold eB at k
  cases ef : fs e with
  | bad => rw [ef] at k; exact k.elim
  | ex c => rw [ef] at k; exact k
  | ok ds =>
    rw [ef, R.bind_ok] at k
    intro B1 H1 vs x1 r1
    cases eg : g ds with
    | none => rw [eg] at k; exact k.elim
    | some d =>
      rw [eg] at k
      exact hd H1 vs ds d Q (reps_all x1.s (S.ext.h.trans x1.h) r1) eg fun v hv => k B1 H1 v x1 (hv _)
theorem ve_blt {id : String} (hc : CallR X (.builtin id) r) (hd : DoesN (kf X) r g) (hm : X.mg x = none) (hv : bootBuiltins x = some (.builtin id)) (ha : PA X (a :: es) (vA (kf X) X.mg G W ts fs)) (hg : Gl X x := by rfl) (hn : x ≠ "__name__" := by decide) (hdb : (x == ("__debug__" : Str)) = false := by decide)
    (he : starEach (a :: es) X.env = (false, eval a X.env) :: starEach es X.env := by rfl) (hpl : (backTo pos (starEach es X.env)).any (·.1) = false := by rfl) : PE X (.Call (.Name x p) (a :: es) [] pos) (vE (kf X) X.mg G W .im (eB g fs)) :=
  pe_weak (pe_callB hc hg hm hv ha hn hdb he hpl) (callN_flat hd)
end
def gLen : List D → Option D
  | [.lst ds] => some (.int ds.length)
  | [.tup ds] => some (.int ds.length)
  | [.str z] => if z.length ≤ sizeLine then some (.int z.length) else none
  | _ => none
@[simp] theorem gLen_lst (ds : List D) : gLen [.lst ds] = some (.int ds.length) := rfl
@[simp] theorem gLen_tup (ds : List D) : gLen [.tup ds] = some (.int ds.length) := rfl
@[simp] theorem gLen_str (z : Str) : gLen [.str z] = if z.length ≤ sizeLine then some (.int z.length) else none := rfl
section
variable {K : KFr}
theorem reps1 {c : Bool} {H : Hp} {vs : List V} {d : D} (h : Reps c K H vs [d]) : ∃ v, vs = [v] ∧ Rep c K H v d := by
  cases h with
  | cons h r =>
    cases r
    exact ⟨_, rfl, h⟩
theorem reps2 {c : Bool} {H : Hp} {vs : List V} {d d' : D} (h : Reps c K H vs [d, d']) : ∃ v v', vs = [v, v'] ∧ Rep c K H v d ∧ Rep c K H v' d' := by
  cases h with
  | cons h r =>
    obtain ⟨v', rfl, h'⟩ := reps1 r
    exact ⟨_, _, rfl, h, h'⟩
theorem d_len : DoesN K (fun xs H Q => ∃ x n, xs = [x] ∧ LenV K x H n ∧ Q (.int n) H) gLen := by
  intro H vs ds d Q r e q
  unfold gLen at e
  split at e
  · cases e
    obtain ⟨v, rfl, h⟩ := reps1 r
    obtain ⟨a, us, rfl, h, q'⟩ := h.sq
    exact ⟨_, _, rfl, .inl ⟨_, h, rfl⟩, by rw [q'.length]; exact q _ fun _ => .int _⟩
  · cases e
    obtain ⟨v, rfl, h⟩ := reps1 r
    cases h with
    | tup h q' => exact ⟨_, _, rfl, .inr ⟨_, .inl h.rd, rfl⟩, by rw [q'.length]; exact q _ fun _ => .int _⟩
  · obtain ⟨v, rfl, h⟩ := reps1 r
    cases h
    split at e
    · cases e
      exact ⟨_, _, rfl, ⟨by assumption, rfl⟩, q _ fun _ => .int _⟩
    · cases e
  · cases e
end
def gDivmod : List D → R D
  | [.int i, .int j] => if CDivP i j then .ok (.tup [.int (i / j), .int (i % j)]) else .bad
  | _ => .bad
@[simp] theorem gDivmod_int (i j : Int) : gDivmod [.int i, .int j] = if CDivP i j then .ok (.tup [.int (i / j), .int (i % j)]) else .bad := rfl
def parD (i j : Nat) (e : List D) : List D → R Fl
  | [d1, d2] => .ok (.nx ((e.set i d1).set j d2))
  | _ => .bad
@[simp] theorem parD_two (i j : Nat) (e : List D) (d1 d2 : D) : parD i j e [d1, d2] = .ok (.nx ((e.set i d1).set j d2)) := rfl
def tyD : D → String
  | .non => "NoneType" | .bl _ => "bool" | .int _ => "int" | .str _ => "str" | .tup _ => "tuple" | .lst _ => "list" | .dic _ => "dict" | .tdc _ => "dict"
def isTdc : D → Bool
  | .tdc _ => true
  | _ => false
theorem tyx_of {c : Bool} {K : KFr} {H : Hp} {v : V} {d : D} (r : Rep c K H v d) (hd : isTdc d = false) : TyX K H v (.type (tyD d)) := by
  cases r with
  | non => exact .base .non
  | bl b => exact .base (.bl b)
  | int i => exact .base (.int i)
  | str x => exact .base (.str x)
  | lst h _ =>
    rcases h with h | ⟨o, h⟩
    · exact .base (.lst h)
    · exact .base (.frz h)
  | kls _ h _ =>
    rcases h with (h | ⟨o, h⟩) | ⟨o, its, n, h, hc, _⟩
    · exact .base (.lst h)
    · exact .base (.frz h)
    · exact .kList h hc
  | tup h _ =>
    obtain ⟨o, h, _⟩ := h
    exact .fTuple h
  | dic h _ =>
    obtain ⟨o, h⟩ := h
    exact .fDict h
  | dko _ h _ =>
    rcases h with h | ⟨o, h⟩
    · exact .base (.dK h)
    · exact .fDict h
  | tdc _ _ => cases hd
  | tko _ _ _ => cases hd
def isiD (T : String) (d : D) : Option Bool := match isTdc d with
  | true => none
  | false => kitB (tyD d) T
@[simp] def eIsi (T : String) (f : List D → R D) (e : List D) : R D := (f e).bind fun d => ofO ((isiD T d).map .bl)
section
variable {X : Cx} {G : List Md} {W : WX} {p p2 pos : Pos} {a : Expr} {f : List D → R D} {m : Tg} {T : Str} {Tn : String}
theorem ve_isi (hm : X.mg "isinstance" = none) (hmT : X.mg T = none) (hT : bootBuiltins T = some (.type Tn)) (ha : PE X a (vE (kf X) X.mg G W m f)) (hg : Gl X "isinstance" := by rfl) (hgT : Gl X T := by rfl) (hn : T ≠ "__name__" := by decide) (hdT : (T == ("__debug__" : Str)) = false := by decide)
    (he : starEach (a :: [.Name T p2]) X.env = (false, eval a X.env) :: starEach [.Name T p2] X.env := by rfl) (he2 : starEach [.Name T p2] X.env = (false, eval (.Name T p2) X.env) :: starEach [] X.env := by rfl) (hpl : (backTo pos (starEach [.Name T p2] X.env)).any (·.1) = false := by rfl) :
    PE X (.Call (.Name "isinstance" p) [a, .Name T p2] [] pos) (vE (kf X) X.mg G W .im (eIsi Tn f)) := by
  refine pe_weak (pe_callB call_isi hg hm (by decide +kernel) (pa_cons ha (pa_cons (pe_bltn (v := .ty Tn) hgT hmT hT rfl hn hdT) pa_nil he2) he) (by decide) (by decide) he hpl) fun sg H Q ⟨B0, H0, B, e, S, k⟩ => ?_
  refine seq1 (P := KE (kf X) X.mg W sg H0 B H Q .im) S k (fun c k => k) (fun k => k) fun B1 H1 x d x1 S1 r1 k1 => ?_
  have r := r1.all x1.s S1.ext.h
  cases ei : isiD Tn d with
  | none => rw [ei] at k1; exact k1.elim
  | some b =>
    rw [ei] at k1
    unfold isiD at ei
    cases ht : isTdc d with
    | true => rw [ht] at ei; cases ei
    | false =>
    rw [ht] at ei
    exact ⟨x, .ty Tn, _, _, b, rfl, .ty Tn, tyx_of r ht, kit_ty ei, k1 B1 H1 _ x1 (.bl b)⟩
end
end L2.VL
set_option Elab.async false
set_option linter.all false
set_option maxRecDepth 100000
set_option maxHeartbeats 4000000
namespace L2.VL
open PySem PySem.Spec PyProof.Rows
def spLaw (K : PySem.W.Frag) : Sp := fun vs H Q _ => ∃ (a : Addr) (ns : List Int), vs = [.ref a] ∧ ns.length ≤ 63 ∧ (∀ z ∈ ns, Builtin.Int.intBits z ≤ 1048576) ∧ SqL K H a (ns.map V.int) ∧ ∀ H', Q (.bl true) H'
theorem reps_ints {c : Bool} {K : KFr} {B : Hp} : ∀ ns : List Int, Reps c K B (ns.map V.int) (ns.map D.int)
  | [] => .nil
  | n :: ns => .cons (.int n) (reps_ints ns)
theorem law_imp {P : Program} {w : World} {K : PySem.W.Frag} {mg : Str → Option Value} {base : Heap} {k : Nat} {f : Addr} {fd : FuncData} {ps : List Str} {F : List D → R D}
    (hl : ∀ ns : List Int, ns.length ≤ 63 → (∀ z ∈ ns, Builtin.Int.intBits z ≤ 1048576) → F [.lst (ns.map D.int)] = .ok (.bl true))
    (h : FnOk P w K mg base (L2.CX P w) k f fd ps (spF ⟨K, P, w⟩ mg [.ar] .im F)) : FnOk P w K mg base (L2.CX P w) k f fd ps (spLaw K) := by
  refine FnOk.imp h fun vs H Q E hs => ?_
  obtain ⟨a, ns, rfl, h1, h2, hS, q⟩ := hs
  refine ⟨fun _ => none, [.lst (ns.map D.int)], fun b o e => (nomatch e), ⟨.kls rfl hS (reps_ints ns), trivial⟩, ?_⟩
  rw [hl ns h1 h2]
  intro B' H' v x r
  cases r
  exact q H'
theorem cx_false {P : Program} {w : World} {H : Hp} {s : Shared} {e : Value} {s' : Shared} (h : L2.CX P w [] H s (fun _ _ _ => False) e s') : False := by
  obtain ⟨_, _, _, _, _, _, _, _, _, _, _, _, z⟩ := h
  exact z.elim
def asInts : List D → Option (List Int)
  | [] => some []
  | .int i :: ds => (asInts ds).map (i :: ·)
  | _ :: _ => none
theorem asInts_map : ∀ ns : List Int, asInts (ns.map D.int) = some ns
  | [] => rfl
  | n :: ns => by
    show (asInts (ns.map D.int)).map (n :: ·) = some (n :: ns)
    rw [asInts_map ns]
    rfl
theorem asInts_eq : ∀ {ds : List D} {ns : List Int}, asInts ds = some ns → ds = ns.map D.int
  | [], ns, h => by cases h; rfl
  | .int i :: ds, ns, h => by
    have h : (asInts ds).map (i :: ·) = some ns := h
    cases e : asInts ds with
    | none => rw [e] at h; cases h
    | some ms =>
      rw [e] at h
      cases h
      rw [asInts_eq e]
      rfl
  | .non :: _, _, h => by cases h
  | .bl _ :: _, _, h => by cases h
  | .str _ :: _, _, h => by cases h
  | .tup _ :: _, _, h => by cases h
  | .lst _ :: _, _, h => by cases h
  | .dic _ :: _, _, h => by cases h
  | .tdc _ :: _, _, h => by cases h
theorem mulOk_left {a b : Int} (h1 : -(2 ^ 64) < a) (h2 : a < 2 ^ 64) : IntMulOk a b := .of_left (intBits_le_64 h1 h2)
theorem mulOk_right {a b : Int} (h1 : -(2 ^ 64) < b) (h2 : b < 2 ^ 64) : IntMulOk a b := .of_right (intBits_le_64 h1 h2)
theorem divP_small {a b : Int} (h : 0 < b) (hb : b < 1073741824) : CDivP a b := ⟨h, PyProof.noPylong_small (by omega)⟩
@[simp] theorem sz_1 : 1 ≤ sizeLine := by decide
@[simp] theorem sz_2 : 2 ≤ sizeLine := by decide
@[simp] theorem sz_3 : 3 ≤ sizeLine := by decide
@[simp] theorem sz_4 : 4 ≤ sizeLine := by decide
@[simp] theorem sz_5 : 5 ≤ sizeLine := by decide
@[simp] theorem sz_6 : 6 ≤ sizeLine := by decide
@[simp] theorem sz_7 : 7 ≤ sizeLine := by decide
@[simp] theorem sz_8 : 8 ≤ sizeLine := by decide
@[simp] theorem sz_9 : 9 ≤ sizeLine := by decide
@[simp] theorem sz_10 : 10 ≤ sizeLine := by decide
end L2.VL
set_option Elab.async false
set_option linter.all false
set_option maxRecDepth 100000
set_option maxHeartbeats 4000000
namespace L2.VL
open PySem PySem.Spec PyProof.Rows
def RepP (K : KFr) (H0 B : Hp) : Pm → V → D → Prop
  | .im, v, d => Rep false K B v d
  | .ar, v, d => Rep true K H0 v d
theorem RepP.slot {K : KFr} {H0 B H : Hp} {m : Pm} {v : V} {d : D} (r : RepP K H0 B m v d) : Slot K H0 B H m.md (some v) d := by
  cases m with
  | im => exact r
  | ar => exact r
def pmT : Pm → Tg
  | .im => .im
  | .ar => .ar
theorem RepP.of {K : KFr} {H0 H B' H' : Hp} {m : Pm} {v : V} {d : D} (r : RepT K H0 H B' H' (pmT m) v d) : RepP K H0 B' m v d := by
  cases m with
  | im => exact r
  | ar => exact r
structure WalkD (K : KFr) (m : Pm) (H0 B : Hp) (J : It) (ds : List D) : Prop where
  ex : ∃ Gd Y, Walk J ds.length Gd Y ∧ (∀ B1 H1, Same B B1 → Same H0 H1 → Same B1 H1 → Gd H1) ∧
    ∀ i H1 x H2 d B1, Y i H1 x H2 → ds[i]? = some d → Same B B1 → Same H0 H1 → Same B1 H1 → H2 = H1 ∧ RepP K H0 B1 m x d
structure WalkP (K : KFr) (m1 m2 : Pm) (H0 B : Hp) (J : It) (ps : List (D × D)) : Prop where
  ex : ∃ Gd Y, Walk J ps.length Gd Y ∧ (∀ B1 H1, Same B B1 → Same H0 H1 → Same B1 H1 → Gd H1) ∧
    ∀ i H1 x H2 (d1 d2 : D) B1, Y i H1 x H2 → ps[i]? = some (d1, d2) → Same B B1 → Same H0 H1 → Same B1 H1 → ∃ T x1 x2, x = .ref T ∧ H1 T = none ∧ H2 = upd H1 T (.tup [x1, x2]) ∧ RepP K H0 B1 m1 x1 d1 ∧ RepP K H0 B1 m2 x2 d2
def KI {α : Type} (mg : Str → Option Value) (W : WX) (sg : St) (B H : Hp) (Wk : Hp → It → α → Prop) (Rr : It → Hp → Prop) : R α → Prop
  | .ok ds => ∀ B' H' J, Ext B H B' H' → Wk B' J ds → Rr J H'
  | .ex c => ∀ B' H' a, Ext B H B' H' → mg c = some (.ref a) → W (.ref a) none sg H'
  | .bad => False
def vI (K : KFr) (mg : Str → Option Value) (G : List Md) (W : WX) (m : Pm) (f : List D → R (List D)) : TI := fun sg H Rr =>
  ∃ B0 H0 B e, Sta K G B0 H0 sg e B H ∧ KI mg W sg B H (WalkD K m H0) Rr (f e)
def vI2 (K : KFr) (mg : Str → Option Value) (G : List Md) (W : WX) (m1 m2 : Pm) (f : List D → R (List (D × D))) : TI := fun sg H Rr =>
  ∃ B0 H0 B e, Sta K G B0 H0 sg e B H ∧ KI mg W sg B H (WalkP K m1 m2 H0) Rr (f e)
theorem pi_weak {X : Cx} {tg e : Expr} {t t' : TI} (h : PI X tg e t) (w : ∀ sg H Q, t' sg H Q → t sg H Q) : PI X tg e t' := ⟨fun pins s σ H Q I q => h.run pins s σ H Q I (w σ H Q q)⟩
theorem Rep.rdT {c : Bool} {K : KFr} {B : Hp} {v : V} {ds : List D} (r : Rep c K B v (.tup ds)) : ∃ a vs, v = .ref a ∧ Rd B a (.tup vs) ∧ Reps c K B vs ds := by
  cases r with
  | tup h q => exact ⟨_, _, rfl, h.rd, q⟩
section
variable {K : KFr} {H0 B H H' : Hp} {m : Pm} {v : V} {ds : List D}
theorem RepT.stay (r : RepT K H0 H B H' (pmT m) v (.lst ds)) : ∃ p vs, v = .ref p ∧ vs.length = ds.length ∧ (∀ B1 H1, Same B B1 → Same H0 H1 → Same B1 H1 → SqL K H1 p vs) ∧ ∀ (i : Nat) d B1, ds[i]? = some d → Same B B1 → ∃ x, vs[i]? = some x ∧ RepP K H0 B1 m x d := by
  cases m with
  | im =>
    obtain ⟨p, vs, rfl, hp, hr⟩ := Rep.rd r
    refine ⟨p, vs, rfl, hr.length, fun B1 H1 sb s0 sh => .inl (same_rd (sb.trans sh) hp), fun i d B1 hd sb => ?_⟩
    obtain ⟨z, hz, q⟩ := hr.get hd
    exact ⟨z, hz, Rep.mono sb q⟩
  | ar =>
    obtain ⟨p, vs, rfl, hp, hr⟩ := Rep.sq r
    refine ⟨p, vs, rfl, hr.length, fun B1 H1 sb s0 sh => s0.seq hp, fun i d B1 hd sb => ?_⟩
    obtain ⟨z, hz, q⟩ := hr.get hd
    exact ⟨z, hz, q⟩
theorem RepT.stayT (r : RepT K H0 H B H' (pmT m) v (.tup ds)) : ∃ p vs, v = .ref p ∧ vs.length = ds.length ∧ (∀ B1 H1, Same B B1 → Same H0 H1 → Same B1 H1 → SqT K H1 p vs) ∧ ∀ (i : Nat) d B1, ds[i]? = some d → Same B B1 → ∃ x, vs[i]? = some x ∧ RepP K H0 B1 m x d := by
  cases m with
  | im =>
    obtain ⟨p, vs, rfl, hp, hr⟩ := Rep.rdT r
    refine ⟨p, vs, rfl, hr.length, fun B1 H1 sb s0 sh => .inl (same_rd (sb.trans sh) hp), fun i d B1 hd sb => ?_⟩
    obtain ⟨z, hz, q⟩ := hr.get hd
    exact ⟨z, hz, Rep.mono sb q⟩
  | ar =>
    obtain ⟨p, vs, rfl, hp, hr⟩ := Rep.rdT r
    refine ⟨p, vs, rfl, hr.length, fun B1 H1 sb s0 sh => .inl (same_rd s0 hp), fun i d B1 hd sb => ?_⟩
    obtain ⟨z, hz, q⟩ := hr.get hd
    exact ⟨z, hz, q⟩
end
def lstOf : D → R (List D)
  | .lst ds => .ok ds
  | _ => .bad
def tupOf : D → R (List D)
  | .tup ds => .ok ds
  | _ => .bad
@[simp] theorem lstOf_lst (ds : List D) : lstOf (.lst ds) = .ok ds := rfl
@[simp] theorem tupOf_tup (ds : List D) : tupOf (.tup ds) = .ok ds := rfl
@[simp] def iLst (f : List D → R D) (e : List D) : R (List D) := (f e).bind lstOf
@[simp] def iTupl (f : List D → R D) (e : List D) : R (List D) := (f e).bind tupOf
section
variable {X : Cx} {G : List Md} {W : WX} {tg a : Expr} {f : List D → R D} {m : Pm}
theorem seqI {α : Type} {K : KFr} {mg : Str → Option Value} {sg : St} {H H0 B0 B : Hp} {e : List D} {ma : Tg} {kk : D → R α} {Wk : Hp → It → α → Prop} {Rr : It → Hp → Prop} {Rv : V → Hp → Prop} (S : Sta K G B0 H0 sg e B H)
    (h : KI mg W sg B H Wk Rr ((f e).bind kk)) (fin : ∀ B1 H1 x d, Ext B H B1 H1 → Sta K G B0 H0 sg e B1 H1 → RepT K H0 H B1 H1 ma x d → KI mg W sg B H Wk Rr (kk d) → Rv x H1) : vE K mg G W ma f sg H Rv :=
  seq1 (P := KI mg W sg B H Wk Rr) S h (fun c k => k) (fun k => k) fin
theorem vi_list (h : PE X a (vE (kf X) X.mg G W (pmT m) f)) : PI X tg a (vI (kf X) X.mg G W m (iLst f)) := by
  refine pi_weak (pi_list h) fun sg H Rr ⟨B0, H0, B, e, S, k⟩ => ?_
  refine seqI S k fun B1 H1 x d x1 S1 r1 k1 => ?_
  cases d with
  | lst ds =>
    obtain ⟨p, vs, rfl, hl, hst, hit⟩ := r1.stay
    refine ⟨p, rfl, ⟨vs, hst B1 H1 (Same.refl _) S1.ext.h x1.s⟩, k1 B1 H1 _ x1 ⟨fun H => SqL (kf X) H p vs, YAt vs, ?_, fun B2 H2 sb s0 sh => hst B2 H2 sb s0 sh, fun i H2 y H3 d B2 hy hd sb s0 sh => ?_⟩⟩
    · rw [← hl]
      exact walk_list (xs := vs)
    · obtain ⟨z, hz, q⟩ := hit i d B2 hd sb
      obtain ⟨e1, e2⟩ := hy
      rw [hz] at e2
      cases e2
      exact ⟨e1, q⟩
  | _ => exact k1.elim
theorem vi_tup (h : PE X a (vE (kf X) X.mg G W (pmT m) f)) : PI X tg a (vI (kf X) X.mg G W m (iTupl f)) := by
  refine pi_weak (pi_tup h) fun sg H Rr ⟨B0, H0, B, e, S, k⟩ => ?_
  refine seqI S k fun B1 H1 x d x1 S1 r1 k1 => ?_
  cases d with
  | tup ds =>
    obtain ⟨p, vs, rfl, hl, hst, hit⟩ := r1.stayT
    refine ⟨p, rfl, ⟨vs, hst B1 H1 (Same.refl _) S1.ext.h x1.s⟩, k1 B1 H1 _ x1 ⟨fun H => SqT (kf X) H p vs, YAt vs, ?_, fun B2 H2 sb s0 sh => hst B2 H2 sb s0 sh, fun i H2 y H3 d B2 hy hd sb s0 sh => ?_⟩⟩
    · rw [← hl]
      exact walk_tup (xs := vs)
    · obtain ⟨z, hz, q⟩ := hit i d B2 hd sb
      obtain ⟨e1, e2⟩ := hy
      rw [hz] at e2
      cases e2
      exact ⟨e1, q⟩
  | _ => exact k1.elim
def strOf : D → R (List D)
  | .str z => .ok (z.cps.toList.map fun c => .str ⟨#[c]⟩)
  | _ => .bad
@[simp] theorem strOf_str (z : Str) : strOf (.str z) = .ok (z.cps.toList.map fun c => .str ⟨#[c]⟩) := rfl
@[simp] def iStrg (f : List D → R D) (e : List D) : R (List D) := (f e).bind strOf
theorem vi_str {mt : Tg} (h : PE X a (vE (kf X) X.mg G W mt f)) : PI X tg a (vI (kf X) X.mg G W .im (iStrg f)) := by
  refine pi_weak (pi_str h) fun sg H Rr ⟨B0, H0, B, e, S, k⟩ => ?_
  refine seqI S k fun B1 H1 x d x1 S1 r1 k1 => ?_
  have r := r1.all x1.s S1.ext.h
  cases r with
  | str z =>
    refine ⟨z, rfl, k1 B1 H1 _ x1 ⟨fun _ => True, fun i H v H' => H' = H ∧ ∃ c, z.cps[i]? = some c ∧ v = .str ⟨#[c]⟩, ?_, fun B2 H2 sb s0 sh => trivial, fun i H2 y H3 d B2 hy hd sb s0 sh => ?_⟩⟩
    · rw [List.length_map, Array.length_toList]
      exact walk_str (z := z)
    · obtain ⟨e1, c, hc, rfl⟩ := hy
      rw [List.getElem?_map, Array.getElem?_toList, hc] at hd
      cases hd
      exact ⟨e1, .str _⟩
  | _ => exact k1.elim
end
def rngOf (a b : Int) : List D := (List.range (b - a).toNat).map fun (i : Nat) => D.int (a + (i : Int))
theorem rngOf_get {a b : Int} {i : Nat} {d : D} (h : (rngOf a b)[i]? = some d) : d = .int (a + i) := by
  unfold rngOf at h
  rw [List.getElem?_map] at h
  cases e : (List.range (b - a).toNat)[i]? with
  | none => rw [e] at h; cases h
  | some j =>
    rw [e] at h
    have hj := List.getElem?_eq_some_iff.mp e
    obtain ⟨h1, h2⟩ := hj
    rw [List.getElem_range] at h2
    cases h
    rw [h2]
theorem rngOf_len (a b : Int) : (rngOf a b).length = (b - a).toNat := by
  unfold rngOf
  rw [List.length_map, List.length_range]
def inR (i : Int) : Prop := -(2 ^ 62) ≤ i ∧ i < 2 ^ 62
instance (i : Int) : Decidable (inR i) := by unfold inR; infer_instance
def rng1 : List D → R (List D)
  | [.int j] => if inR j then .ok (rngOf 0 j) else .bad
  | _ => .bad
def rng2 : List D → R (List D)
  | [.int i, .int j] => if inR i ∧ inR j then .ok (rngOf i j) else .bad
  | _ => .bad
@[simp] theorem rng1_int (j : Int) : rng1 [.int j] = if inR j then .ok (rngOf 0 j) else .bad := rfl
@[simp] theorem rng2_int (i j : Int) : rng2 [.int i, .int j] = if inR i ∧ inR j then .ok (rngOf i j) else .bad := rfl
@[simp] def iRng (g : List D → R (List D)) (fs : List D → R (List D)) (e : List D) : R (List D) := (fs e).bind g
section
variable {X : Cx} {G : List Md} {W : WX} {tg a b : Expr} {fs : List D → R (List D)} {ts : List Tg} {p pos : Pos}
theorem walk_rng {K : KFr} {H0 B : Hp} (i j : Int) : WalkD K .im H0 B (Itr i (j - i).toNat) (rngOf i j) := by
  refine ⟨fun _ => True, YFn fun k => .int (i + k), ?_, fun _ _ _ _ _ => trivial, fun k H1 x H2 d B1 hy hd _ _ _ => ?_⟩
  · rw [rngOf_len]
    exact walk_range
  · obtain ⟨e1, e2⟩ := hy
    rw [rngOf_get hd, e2]
    exact ⟨e1, .int _⟩
theorem vi_range1 (hm : X.mg "range" = none) (ha : PA X [a] (vA (kf X) X.mg G W ts fs)) (hg : Gl X "range" := by rfl) (hs : starEach [a] X.env = [(false, eval a X.env)] := by rfl) : PI X tg (.Call (.Name "range" p) [a] [] pos) (vI (kf X) X.mg G W .im (iRng rng1 fs)) := by
  refine pi_weak (pi_range1 hg hm ha hs) fun sg H Rr ⟨B0, H0, B, e, S, k⟩ => ⟨B0, H0, B, e, S, ?_⟩
  unfold iRng at k
  cases ef : fs e with
  | bad => rw [ef] at k; exact k.elim
  | ex c => rw [ef] at k; exact k
  | ok ds =>
    rw [ef, R.bind_ok] at k
    intro B1 H1 vs x1 r1
    have rs := reps_all x1.s (S.ext.h.trans x1.h) r1
    unfold rng1 at k
    split at k
    · obtain ⟨v, rfl, h1⟩ := reps1 rs
      cases h1
      split at k
      · rename_i j hj
        refine ⟨j, rfl, hj.1, hj.2, ?_⟩
        have w := walk_rng (K := (kf X)) (H0 := H0) (B := B1) 0 j
        rw [show (j - 0).toNat = j.toNat by omega] at w
        exact k B1 H1 _ x1 w
      · exact k.elim
    · exact k.elim
end
def enumL (ds : List D) : List (D × D) := ds.zipIdx.map fun p => (.int p.2, p.1)
theorem enumL_len (ds : List D) : (enumL ds).length = ds.length := by
  unfold enumL
  rw [List.length_map, List.length_zipIdx]
theorem enumL_get {ds : List D} {i : Nat} {d1 d2 : D} (h : (enumL ds)[i]? = some (d1, d2)) : d1 = .int i ∧ ds[i]? = some d2 := by
  unfold enumL at h
  rw [List.getElem?_map, List.getElem?_zipIdx] at h
  cases e : ds[i]? with
  | none => rw [e] at h; cases h
  | some d =>
    rw [e] at h
    cases h
    refine ⟨?_, rfl⟩
    show D.int (((0 + i : Nat)) : Int) = D.int (i : Int)
    rw [Nat.zero_add]
@[simp] def iEnumL (f : List D → R D) (e : List D) : R (List (D × D)) := (f e).bind fun d => (lstOf d).bind fun ds => .ok (enumL ds)
@[simp] def iZipL (f g : List D → R D) (e : List D) : R (List (D × D)) := (f e).bind fun d => (g e).bind fun d' => (lstOf d).bind fun ds => (lstOf d').bind fun es => .ok (ds.zip es)
@[simp] def iZipT (f g : List D → R D) (e : List D) : R (List (D × D)) := (f e).bind fun d => (g e).bind fun d' => (tupOf d).bind fun ds => (tupOf d').bind fun es => .ok (ds.zip es)
section
variable {X : Cx} {G : List Md} {W : WX} {a b : Expr} {f g : List D → R D} {m m1 m2 : Pm} {p pos tpos : Pos} {elts : List Expr} {kk : Nat}
theorem vi_enum (hm : X.mg "enumerate" = none) (ha : PE X a (vE (kf X) X.mg G W (pmT m) f)) (hg : Gl X "enumerate" := by rfl) (hs : starEach [a] X.env = [(false, eval a X.env)] := by rfl) :
    PI X (.Tuple elts kk tpos) (.Call (.Name "enumerate" p) [a] [] pos) (vI2 (kf X) X.mg G W .im m (iEnumL f)) := by
  refine pi_weak (pi_enum hg hm (pa_cons ha pa_nil hs) hs) fun sg H Rr ⟨B0, H0, B, e, S, k⟩ => ?_
  refine seqI S k fun B1 H1 x d x1 S1 r1 k1 => ?_
  cases d with
  | lst ds =>
    obtain ⟨q, vs, rfl, hl, hst, hit⟩ := r1.stay
    refine ⟨q, vs, rfl, hst B1 H1 (Same.refl _) S1.ext.h x1.s, k1 B1 H1 _ x1 ⟨fun H => SqL (kf X) H q vs, YPair (fun i => some (.int (i : Nat))) (fun i => vs[i]?), ?_, fun B2 H2 sb s0 sh => hst B2 H2 sb s0 sh, fun i H2 y H3 d1 d2 B2 hy hd sb s0 sh => ?_⟩⟩
    · rw [enumL_len, ← hl]
      exact walk_enum (xs := vs)
    · obtain ⟨e1, e2⟩ := enumL_get hd
      obtain ⟨T, y1, y2, h1, h2, h3, h4, h5⟩ := hy
      obtain ⟨z, hz, rz⟩ := hit i d2 B2 e2 sb
      have h5 : vs[i]? = some y2 := h5
      rw [hz] at h5
      cases h5
      cases h4
      rw [e1]
      exact ⟨T, _, _, h1, h2, h3, .int _, rz⟩
  | _ => exact k1.elim
theorem zip_get {α β : Type} : ∀ {xs : List α} {ys : List β} {i : Nat} {x : α} {y : β}, (xs.zip ys)[i]? = some (x, y) → xs[i]? = some x ∧ ys[i]? = some y := fun {xs ys i x y} h => by
  rw [List.getElem?_zip_eq_some] at h
  exact h
theorem vi_zipL (hm : X.mg "zip" = none) (ha : PE X a (vE (kf X) X.mg G W (pmT m1) f)) (hb : PE X b (vE (kf X) X.mg G W (pmT m2) g)) (hg : Gl X "zip" := by rfl)
    (hs : starEach [a, b] X.env = (false, eval a X.env) :: starEach [b] X.env := by rfl) (hs2 : starEach [b] X.env = [(false, eval b X.env)] := by rfl) :
    PI X (.Tuple elts kk tpos) (.Call (.Name "zip" p) [a, b] [] pos) (vI2 (kf X) X.mg G W m1 m2 (iZipL f g)) := by
  refine pi_weak (pi_zip hg hm (pa_cons ha (pa_cons hb pa_nil hs2) hs) hs (by rw [hs2]; rfl)) fun sg H Rr ⟨B0, H0, B, e, S, k⟩ => ?_
  refine seqI S k fun B1 H1 x d x1 S1 r1 k1 => ?_
  refine seq1 (P := KI X.mg W sg B H (WalkP (kf X) m1 m2 H0) Rr) S1 k1 (fun c k B' H' a y hm => k B' H' a (x1.trans y) hm) (fun k => k) fun B2 H2 x' d' x2 S2 r2 k2 => ?_
  cases d with
  | lst ds =>
    cases d' with
    | lst es =>
      obtain ⟨q, vs, rfl, hl, hst, hit⟩ := (r1.later x2).stay
      obtain ⟨q', vs', rfl, hl', hst', hit'⟩ := (r2.earlier x1.h).stay
      refine ⟨q, q', vs, vs', rfl, hst B2 H2 (Same.refl _) S2.ext.h x2.s, hst' B2 H2 (Same.refl _) S2.ext.h x2.s, k2 B2 H2 _ (x1.trans x2) ⟨fun H => SqL (kf X) H q vs ∧ SqL (kf X) H q' vs', YPair (fun i => vs[i]?) (fun i => vs'[i]?), ?_, fun B3 H3 sb s0 sh => ⟨hst B3 H3 sb s0 sh, hst' B3 H3 sb s0 sh⟩, fun i H3 y H4 d1 d2 B3 hy hd sb s0 sh => ?_⟩⟩
      · exact walk_zip (xs := vs) (ys := vs') (by rw [List.length_zip, hl, hl'])
      · obtain ⟨e1, e2⟩ := zip_get hd
        obtain ⟨T, y1, y2, h1, h2, h3, h4, h5⟩ := hy
        obtain ⟨z, hz, rz⟩ := hit i d1 B3 e1 sb
        obtain ⟨z', hz', rz'⟩ := hit' i d2 B3 e2 sb
        have h4 : vs[i]? = some y1 := h4
        have h5 : vs'[i]? = some y2 := h5
        rw [hz] at h4
        rw [hz'] at h5
        cases h4
        cases h5
        exact ⟨T, _, _, h1, h2, h3, rz, rz'⟩
    | _ => exact k2.elim
  | _ => exact k2.elim
end
def Ag (is : List Nat) (sg sg1 : St) : Prop := sg1.length = sg.length ∧ ∀ j : Nat, j ∉ is → sg1[j]? = sg[j]?
theorem Ag.refl (is : List Nat) (sg : St) : Ag is sg sg := ⟨rfl, fun _ _ => rfl⟩
theorem Ag.set {is : List Nat} {sg sg1 : St} (a : Ag is sg sg1) {i : Nat} (hi : i ∈ is) (x : Option V) : Ag is sg (sg1.set i x) := by
  refine ⟨by rw [List.length_set]; exact a.1, fun j hj => ?_⟩
  have hne : i ≠ j := fun z => by
    subst z
    exact hj hi
  rw [List.getElem?_set_ne hne]
  exact a.2 j hj
theorem Ag.fold {is : List Nat} {sg : St} : ∀ {js : List Nat} {vs : List V} {sg1 : St}, Ag is sg sg1 → (∀ j ∈ js, j ∈ is) → Ag is sg (List.foldl (fun s p => s.set p.1 (some p.2)) sg1 (js.zip vs))
  | [], _, _, a, _ => a
  | _ :: _, [], _, a, _ => a
  | j :: js, v :: vs, sg1, a, h => Ag.fold (js := js) (vs := vs) (a.set (h j List.mem_cons_self) _) fun k hk => h k (List.mem_cons_of_mem _ hk)
def KG (K : KFr) (G1 : List Md) (is : List Nat) (sg : St) (B0 H0 B H : Hp) (Qs : St → Hp → Prop) : Option (List D) → Prop
  | some e1 => ∀ sg1, Sta K G1 B0 H0 sg1 e1 B H → Ag is sg sg1 → Qs sg1 H
  | _ => False
def vG (K : KFr) (m : Pm) (is : List Nat) (G G1 : List Md) (t : D → List D → Option (List D)) : TG := fun v sg H Qs =>
  ∃ B0 H0 B e d, Sta K G B0 H0 sg e B H ∧ RepP K H0 B m v d ∧ KG K G1 is sg B0 H0 B H Qs (t d e)
theorem pg_weak {X : Cx} {tg : Expr} {t t' : TG} (h : PG X tg t) (w : ∀ v sg H Q, t' v sg H Q → t v sg H Q) : PG X tg t' := ⟨fun pins s σ H v u Q I r q => h.run pins s σ H v u Q I r (w v σ H Q q)⟩
@[simp] def tgName (i : Nat) (d : D) (e : List D) : Option (List D) := some (e.set i d)
def setAll : List Nat → List D → List D → Option (List D)
  | [], [], e => some e
  | i :: is, d :: ds, e => setAll is ds (e.set i d)
  | _, _, _ => none
@[simp] theorem setAll_nil (e : List D) : setAll [] [] e = some e := rfl
@[simp] theorem setAll_cons (i : Nat) (is : List Nat) (d : D) (ds e : List D) : setAll (i :: is) (d :: ds) e = setAll is ds (e.set i d) := rfl
def tgTup (is : List Nat) : D → List D → Option (List D)
  | .tup ds, e => setAll is ds e
  | _, _ => none
def tgLst (is : List Nat) : D → List D → Option (List D)
  | .lst ds, e => setAll is ds e
  | _, _ => none
@[simp] theorem tgTup_tup (is : List Nat) (ds e : List D) : tgTup is (.tup ds) e = setAll is ds e := rfl
@[simp] theorem tgLst_lst (is : List Nat) (ds e : List D) : tgLst is (.lst ds) e = setAll is ds e := rfl
def setG : List Nat → Md → List Md → List Md
  | [], _, G => G
  | i :: is, m, G => setG is m (G.set i m)
section
variable {X : Cx} {G G1 : List Md} {pos : Pos} {i : Nat} {x : Str} {m : Pm}
theorem md_ne (m : Pm) : isO m.md = true → False := by
  cases m <;> exact fun z => by cases z
theorem vg_name (hN : X.N.Nodup) (hi : X.N[i]? = some x := by rfl) (hx : Loc X.env.scope x := by first | exact Or.inl rfl | exact Or.inr rfl) (hf : X.fn x = true ∨ X.env.scope.names.lookup x = some .local := by first | exact .inl rfl | exact .inr rfl) :
    PG X (.Name x pos) (vG (kf X) m [i] G (G.set i m.md) (tgName i)) := by
  refine pg_weak (pg_name hN hi hx hf) fun v sg H Q ⟨B0, H0, B, e, d, S, r, k⟩ => ?_
  exact k _ (S.set i r.slot (fun z => (md_ne m z).elim)) ((Ag.refl _ _).set List.mem_cons_self _)
structure PNs (X : Cx) (es : List Expr) (is : List Nat) (t : TGs) : Prop where
  pg : PGs X es t
  ok : ∀ {vs : List V} {sg : St} {H : Hp} {Q : St → Hp → Prop}, vs.length = is.length → (Q (List.foldl (fun s p => s.set p.1 (some p.2)) sg (is.zip vs)) H) → t vs sg H Q
theorem pn_nil : PNs X [] [] gNil := ⟨pgs_nil, fun {vs sg H Q} hl q => by
  cases vs with
  | nil => exact ⟨rfl, q⟩
  | cons _ _ => cases hl⟩
theorem pn_cons {es : List Expr} {is : List Nat} {t : TGs} (hN : X.N.Nodup) (h : PNs X es is t) (hi : X.N[i]? = some x := by rfl) (hx : Loc X.env.scope x := by first | exact Or.inl rfl | exact Or.inr rfl) (hf : X.fn x = true ∨ X.env.scope.names.lookup x = some .local := by first | exact .inl rfl | exact .inr rfl)
    (hs : (assignEach (.Name x pos :: es) X.env).map (·.2) = assign (.Name x pos) X.env :: (assignEach es X.env).map (·.2) := by rfl) : PNs X (.Name x pos :: es) (i :: is) (gCons (gName i) t) :=
  ⟨pgs_cons (pg_name hN hi hx hf) h.pg hs, fun {vs sg H Q} hl q => by
    cases vs with
    | nil => cases hl
    | cons v vs => exact ⟨v, vs, rfl, h.ok (Nat.succ.inj hl) q⟩⟩
theorem sta_all {K : KFr} {B0 H0 B H : Hp} : ∀ {is : List Nat} {vs : List V} {ds e e1 : List D} {G : List Md} {sg : St}, Sta K G B0 H0 sg e B H → setAll is ds e = some e1 → vs.length = ds.length → (∀ (j : Nat) d, ds[j]? = some d → ∃ v, vs[j]? = some v ∧ RepP K H0 B m v d) →
    is.length = vs.length ∧ Sta K (setG is m.md G) B0 H0 (List.foldl (fun s p => s.set p.1 (some p.2)) sg (is.zip vs)) e1 B H
  | [], vs, ds, e, e1, G, sg, S, h, hl, hr => by
    cases ds with
    | nil =>
      cases vs with
      | nil =>
        cases h
        exact ⟨rfl, S⟩
      | cons _ _ => cases hl
    | cons _ _ => cases h
  | i :: is, vs, ds, e, e1, G, sg, S, h, hl, hr => by
    cases ds with
    | nil => cases h
    | cons d ds =>
      cases vs with
      | nil => cases hl
      | cons v vs =>
        obtain ⟨v', hv, rv⟩ := hr 0 d rfl
        cases hv
        have S1 := S.set i (m := m.md) rv.slot (fun z => (md_ne m z).elim)
        obtain ⟨h1, h2⟩ := sta_all S1 h (Nat.succ.inj hl) fun j d hd => hr (j + 1) d hd
        exact ⟨congrArg (· + 1) h1, h2⟩
theorem vg_tup {es : List Expr} {is : List Nat} {t : TGs} {k n : Nat} (hc : X.calm = true) (h : PNs X es is t) (hn : (assignEach es X.env).length = n := by rfl) (hi : is.length = n := by rfl) (hst : (assignEach es X.env).findIdx? (·.1) = none := by rfl) :
    PG X (.Tuple es k pos) (vG (kf X) m is G (setG is m.md G) (tgTup is)) := by
  refine pg_weak (pg_tup hc h.pg hn hst) fun v sg H Q ⟨B0, H0, B, e, d, S, r, k⟩ => ?_
  cases d with
  | tup ds =>
    have k : KG (kf X) (setG is m.md G) is sg B0 H0 B H Q (setAll is ds e) := k
    cases es' : setAll is ds e with
    | none => rw [es'] at k; exact k.elim
    | some e1 =>
      rw [es'] at k
      have fin : ∀ {c : Bool} {Bx : Hp} {p : Addr} {vs : List V}, v = .ref p → Rd H p (.tup vs) → vs.length = ds.length → (∀ (j : Nat) d, ds[j]? = some d → ∃ v, vs[j]? = some v ∧ RepP (kf X) H0 B m v d) → gTup (kf X) n t v sg H Q := fun {c Bx p vs} ev hp hl hr => by
        obtain ⟨h1, h2⟩ := sta_all (m := m) S es' hl hr
        exact ⟨p, vs, ev, .inl hp, by rw [← h1, hi], h.ok h1.symm (k _ h2 ((Ag.refl _ _).fold fun _ z => z))⟩
      cases m with
      | im =>
        obtain ⟨p, vs, ev, hp, hr⟩ := Rep.rdT r
        exact fin (c := true) (Bx := B) ev (same_rd S.ext.s hp) hr.length fun j d hd => hr.get hd
      | ar =>
        obtain ⟨p, vs, ev, hp, hr⟩ := Rep.rdT r
        exact fin (c := true) (Bx := B) ev (same_rd S.ext.h hp) hr.length fun j d hd => hr.get hd
  | _ => exact k.elim
theorem vg_lst {es : List Expr} {is : List Nat} {t : TGs} {k n : Nat} (hc : X.calm = true) (h : PNs X es is t) (hn : (assignEach es X.env).length = n := by rfl) (hi : is.length = n := by rfl) (hst : (assignEach es X.env).findIdx? (·.1) = none := by rfl) :
    PG X (.Tuple es k pos) (vG (kf X) m is G (setG is m.md G) (tgLst is)) := by
  refine pg_weak (pg_lst hc h.pg hn hst) fun v sg H Q ⟨B0, H0, B, e, d, S, r, k⟩ => ?_
  cases d with
  | lst ds =>
    have k : KG (kf X) (setG is m.md G) is sg B0 H0 B H Q (setAll is ds e) := k
    cases es' : setAll is ds e with
    | none => rw [es'] at k; exact k.elim
    | some e1 =>
      rw [es'] at k
      have fin : ∀ {p : Addr} {vs : List V}, v = .ref p → SqL (kf X) H p vs → vs.length = ds.length → (∀ (j : Nat) d, ds[j]? = some d → ∃ v, vs[j]? = some v ∧ RepP (kf X) H0 B m v d) → gLst (kf X) n t v sg H Q := fun {p vs} ev hp hl hr => by
        obtain ⟨h1, h2⟩ := sta_all (m := m) S es' hl hr
        exact ⟨p, vs, ev, hp, by rw [← h1, hi], h.ok h1.symm (k _ h2 ((Ag.refl _ _).fold fun _ z => z))⟩
      cases m with
      | im =>
        obtain ⟨p, vs, ev, hp, hr⟩ := Rep.rd r
        exact fin ev (.inl (same_rd S.ext.s hp)) hr.length fun j d hd => hr.get hd
      | ar =>
        obtain ⟨p, vs, ev, hp, hr⟩ := Rep.sq r
        exact fin ev (S.ext.h.seq hp) hr.length fun j d hd => hr.get hd
  | _ => exact k.elim
end
def forL (t : D → List D → Option (List D)) (g : List D → R Fl) : List D → List D → R Fl
  | [], e => .ok (.nx e)
  | d :: ds, e => (ofO (t d e)).bind fun e1 => (g e1).bind fun fl => fl.thn (forL t g ds)
@[simp] def sFor (it : List D → R (List D)) (t : D → List D → Option (List D)) (g : List D → R Fl) (e : List D) : R Fl := (it e).bind fun ds => forL t g ds e
def forP (i j : Nat) (g : List D → R Fl) : List (D × D) → List D → R Fl
  | [], e => .ok (.nx e)
  | p :: ps, e => (g ((e.set i p.1).set j p.2)).bind fun fl => fl.thn (forP i j g ps)
@[simp] def sForP (it : List D → R (List (D × D))) (i j : Nat) (g : List D → R Fl) (e : List D) : R Fl := (it e).bind fun ps => forP i j g ps e
section
variable {X : Cx} {G G1 G2 : List Md} {W : WX} {rm : Rm} {pos : Pos} {tg iter : Expr} {body : List Stmt} {it : List D → R (List D)} {t : D → List D → Option (List D)} {g : List D → R Fl} {m : Pm}
theorem vs_for (hp : PassesOwn (model X.prog X.w) X.A X.env X.xe) (hc : X.calm = true) (hi : PI X tg iter (vI (kf X) X.mg G W m it)) {is : List Nat} (hg : PG X tg (vG (kf X) m is G G1 t)) (hb : PSs X body (vS (kf X) X.mg G1 G2 W rm g)) (hl : leG G2 G = true)
    (hs : ∀ x, foldedSetIterable iter X.env x = pure x := by intro _; rfl) : PS X (.For tg iter body [] pos) (vS (kf X) X.mg G G W rm (sFor it t g)) := by
  refine ps_weak (ps_for hp hc hi hg hb hs) fun Dn sg H ⟨B0, H0, B, e, S, k⟩ => ⟨B0, H0, B, e, S, ?_⟩
  unfold sFor at k
  cases ei : it e with
  | bad => rw [ei] at k; exact k.elim
  | ex c => rw [ei] at k; exact ks_ex S k
  | ok ds =>
    rw [ei, R.bind_ok] at k
    intro B1 H1 J x1 w
    obtain ⟨Gd, Y, wk, hgd, hy⟩ := w.ex
    refine for_it wk (fun i sg' H' => ∃ B' e', Sta (kf X) G B0 H0 sg' e' B' H' ∧ Same B1 B' ∧ KS (kf X) X.mg G W rm B0 H0 B Dn (forL t g (ds.drop i) e')) ⟨B1, e, S.later x1, Same.refl _, by rw [List.drop_zero]; exact k⟩
      (fun i sg' H' _ ⟨B', e', S', sb, _⟩ => hgd B' H' sb S'.ext.h S'.ext.s) (fun i x sg' H' H'' hi ⟨B', e', S', sb, kf⟩ y => ?_) (fun sg' H' ⟨B', e', S', sb, kf⟩ => ?_)
    · have hd : ds[i]? = some ds[i] := List.getElem?_eq_getElem hi
      obtain ⟨rfl, rp⟩ := hy i H' x H'' ds[i] B' y hd sb S'.ext.h S'.ext.s
      rw [List.drop_eq_getElem_cons hi] at kf
      refine ⟨B0, H0, B', e', ds[i], S', rp, ?_⟩
      unfold forL at kf
      cases et : t ds[i] e' with
      | none => rw [et] at kf; exact kf.elim
      | some e1 =>
        rw [et, ofO_some, R.bind_ok] at kf
        intro sg1 S2 _
        refine ⟨B0, H0, B', e1, S2, ?_⟩
        cases eg : g e1 with
        | bad => rw [eg] at kf; exact kf
        | ex c => rw [eg] at kf; exact kf
        | ok fl =>
          rw [eg] at kf
          cases fl with
          | nx e2 => exact fun sg3 B3 H3 S3 s3 => ⟨B3, e2, S3.le hl, sb.trans s3, kf⟩
          | rt d => exact kf
    · rw [List.drop_length] at kf
      exact kf sg' B' H' S' (x1.b.trans sb)
theorem vs_forP {itP : List D → R (List (D × D))} {m1 m2 : Pm} {i j : Nat} {x y : Str} {px py pt : Pos} {kt : Nat} (hp : PassesOwn (model X.prog X.w) X.A X.env X.xe) (hc : X.calm = true) (hN : X.N.Nodup)
    (hi : PI X (.Tuple [.Name x px, .Name y py] kt pt) iter (vI2 (kf X) X.mg G W m1 m2 itP)) (hb : PSs X body (vS (kf X) X.mg ((G.set i m1.md).set j m2.md) G2 W rm g)) (hl : leG G2 G = true) (hix : X.N[i]? = some x := by rfl) (hjx : X.N[j]? = some y := by rfl)
    (hlx : Loc X.env.scope x := by first | exact Or.inl rfl | exact Or.inr rfl) (hly : Loc X.env.scope y := by first | exact Or.inl rfl | exact Or.inr rfl) (hfx : X.fn x = true ∨ X.env.scope.names.lookup x = some .local := by first | exact .inl rfl | exact .inr rfl) (hfy : X.fn y = true ∨ X.env.scope.names.lookup y = some .local := by first | exact .inl rfl | exact .inr rfl)
    (hs : ∀ x, foldedSetIterable iter X.env x = pure x := by intro _; rfl) (h1 : (assignEach [.Name x px, .Name y py] X.env).map (·.2) = assign (.Name x px) X.env :: (assignEach [.Name y py] X.env).map (·.2) := by rfl) (h2 : (assignEach [.Name y py] X.env).map (·.2) = assign (.Name y py) X.env :: (assignEach [] X.env).map (·.2) := by rfl)
    (hn : (assignEach [.Name x px, .Name y py] X.env).length = 2 := by rfl) (hst : (assignEach [.Name x px, .Name y py] X.env).findIdx? (·.1) = none := by rfl) :
    PS X (.For (.Tuple [.Name x px, .Name y py] kt pt) iter body [] pos) (vS (kf X) X.mg G G W rm (sForP itP i j g)) := by
  refine ps_weak (ps_for hp hc hi (pg_tup hc (pgs_cons (pg_name hN hix hlx hfx) (pgs_cons (pg_name hN hjx hly hfy) pgs_nil h2) h1) hn hst) hb hs) fun Dn sg H ⟨B0, H0, B, e, S, k⟩ => ⟨B0, H0, B, e, S, ?_⟩
  unfold sForP at k
  cases ei : itP e with
  | bad => rw [ei] at k; exact k.elim
  | ex c => rw [ei] at k; exact ks_ex S k
  | ok ds =>
    rw [ei, R.bind_ok] at k
    intro B1 H1 J x1 w
    obtain ⟨Gd, Y, wk, hgd, hy⟩ := w.ex
    refine for_it wk (fun i' sg' H' => ∃ B' e', Sta (kf X) G B0 H0 sg' e' B' H' ∧ Same B1 B' ∧ KS (kf X) X.mg G W rm B0 H0 B Dn (forP i j g (ds.drop i') e')) ⟨B1, e, S.later x1, Same.refl _, by rw [List.drop_zero]; exact k⟩
      (fun i sg' H' _ ⟨B', e', S', sb, _⟩ => hgd B' H' sb S'.ext.h S'.ext.s) (fun i' x sg' H' H'' hi ⟨B', e', S', sb, kf⟩ y => ?_) (fun sg' H' ⟨B', e', S', sb, kf⟩ => ?_)
    · have hd : ds[i']? = some (ds[i'].1, ds[i'].2) := List.getElem?_eq_getElem hi
      obtain ⟨T, v1, v2, rfl, hT, rfl, q1, q2⟩ := hy i' H' x H'' _ _ B' y hd sb S'.ext.h S'.ext.s
      rw [List.drop_eq_getElem_cons hi] at kf
      unfold forP at kf
      have x2 : Ext B' H' B' (upd H' T (.tup [v1, v2])) := .newH S'.ext.s hT
      have S1 := S'.later x2
      have S2 := (S1.set i (m := m1.md) q1.slot (fun z => (md_ne m1 z).elim)).set j (m := m2.md) q2.slot (fun z => (md_ne m2 z).elim)
      refine ⟨T, [v1, v2], rfl, .inl (.inl upd_same), rfl, v1, [v2], rfl, v2, [], rfl, rfl, B0, H0, B', _, S2, ?_⟩
      cases eg : g ((e'.set i ds[i'].1).set j ds[i'].2) with
      | bad => rw [eg] at kf; exact kf
      | ex c => rw [eg] at kf; exact kf
      | ok fl =>
        rw [eg] at kf
        cases fl with
        | nx e2 => exact fun sg3 B3 H3 S3 s3 => ⟨B3, e2, S3.le hl, sb.trans s3, kf⟩
        | rt d => exact kf
    · rw [List.drop_length] at kf
      exact kf sg' B' H' S' (x1.b.trans sb)
end
end L2.VL
set_option Elab.async false
set_option linter.all false
set_option maxRecDepth 100000
set_option maxHeartbeats 4000000
namespace L2.VL
open PySem PySem.Spec PyProof.Rows
section
variable {K : KFr} {H0 B0 B H : Hp} {G : List Md} {sg : St} {e : List D} {p : Addr} {o : HO} {d1 : D}
theorem Kid.upd {v : V} {d : D} (hne : v ≠ .ref p ∨ B p ≠ none) (h : Kid K B H v d) : Kid K B (L2.upd H p o) v d := by
  rcases h with h | ⟨q, e, hq, ho⟩
  · exact .inl h
  · subst e
    have hqp : q ≠ p := fun z => by
      subst z
      rcases hne with hne | hne
      · exact hne rfl
      · exact hne hq
    refine .inr ⟨q, rfl, hq, ?_⟩
    cases d with
    | lst ds =>
      obtain ⟨vs, a1, a2⟩ := ho
      exact ⟨vs, by rw [upd_ne hqp]; exact a1, a2⟩
    | dic ds =>
      obtain ⟨vs, a1, a2⟩ := ho
      exact ⟨vs, by rw [upd_ne hqp]; exact a1, a2⟩
    | tdc ds =>
      obtain ⟨vs, a1, a2⟩ := ho
      exact ⟨vs, by rw [upd_ne hqp]; exact a1, a2⟩
    | _ => exact ho.elim
theorem Kids.upd : ∀ {vs : List V} {ds : List D}, V.ref p ∉ vs → Kids K B H vs ds → Kids K B (L2.upd H p o) vs ds
  | _, _, _, .nil => .nil
  | _, _, hne, .cons h r => .cons (h.upd (.inl fun z => hne (by rw [z]; exact List.mem_cons_self))) (Kids.upd (fun z => hne (List.mem_cons_of_mem _ z)) r)
theorem KidKs.upd : ∀ {vs : List (Key × V)} {ds : List (Key × D)}, V.ref p ∉ vs.map (·.2) → KidKs K B H vs ds → KidKs K B (L2.upd H p o) vs ds
  | _, _, _, .nil => .nil
  | _, _, hne, .cons h r => .cons (h.upd (.inl fun z => hne (by rw [z]; exact List.mem_cons_self))) (KidKs.upd (fun z => hne (List.mem_cons_of_mem _ z)) r)
theorem Ft.upd {v : V} {a : Addr} (hv : v ≠ .ref p) (f : Ft B (L2.upd H p o) v a) : Ft B H v a := by
  rcases f with ⟨q, e, h1, h2⟩ | f
  · have hqp : q ≠ p := fun z => hv (by rw [e, z])
    refine .inl ⟨q, e, h1, ?_⟩
    rcases h2 with h2 | ⟨u', hu', hm, hnn⟩
    · exact .inl h2
    · rw [upd_ne hqp] at hu'
      exact .inr ⟨u', hu', hm, hnn⟩
  · exact .inr f
theorem Deep.upd {v : V} (hb : B p = none) : ∀ {d : D}, (¬ Ft B H v p) → Deep K B H v d → v ≠ .ref p ∧ Deep K B (L2.upd H p o) v d
  | .lst _, hne, ⟨q, vs, e, h, hq, hk, ha, hp⟩ => by
    have hv : v ≠ .ref p := fun z => hne (by rw [z]; exact Ft.root hb)
    have hqp : q ≠ p := fun z => hv (by rw [e, z])
    exact ⟨hv, q, vs, e, by rw [upd_ne hqp]; exact h, hq, hk.upd (fun z => hne (.inl ⟨q, e, hq, .inr ⟨_, h, z, hb⟩⟩)), ha, hp⟩
  | .dic _, hne, ⟨q, vs, e, h, hq, hk, ha, hp⟩ => by
    have hv : v ≠ .ref p := fun z => hne (by rw [z]; exact Ft.root hb)
    have hqp : q ≠ p := fun z => hv (by rw [e, z])
    exact ⟨hv, q, vs, e, by rw [upd_ne hqp]; exact h, hq, hk.upd (fun z => hne (.inl ⟨q, e, hq, .inr ⟨_, h, z, hb⟩⟩)), ha, hp⟩
  | .tup _, hne, ⟨q, vs, e, h, hk, ha⟩ => by
    have hv : v ≠ .ref p := fun z => hne (by rw [z]; exact Ft.root hb)
    exact ⟨hv, q, vs, e, h, hk.upd (fun z => hne (.inr ⟨q, vs, e, h, z, hb⟩)), ha⟩
  | .non, hne, h => ⟨fun z => hne (by rw [z]; exact Ft.root hb), h⟩
  | .bl _, hne, h => ⟨fun z => hne (by rw [z]; exact Ft.root hb), h⟩
  | .int _, hne, h => ⟨fun z => hne (by rw [z]; exact Ft.root hb), h⟩
  | .str _, hne, h => ⟨fun z => hne (by rw [z]; exact Ft.root hb), h⟩
  | .tdc _, _, h => h.elim
theorem Slot.upd {m : Md} {x : Option V} {d : D} (hb : B p = none) (s : Slot K H0 B H m x d) (h : isO m = true → ∀ v, x = some v → ¬ Ft B H v p) : Slot K H0 B (upd H p o) m x d := by
  cases m with
  | un => trivial
  | im =>
    cases x with
    | none => exact s.elim
    | some v => exact s
  | ar =>
    cases x with
    | none => exact s.elim
    | some v => exact s
  | ex _ _ =>
    cases x with
    | none => exact s.elim
    | some v => exact s
  | ow =>
    obtain ⟨q, rfl, q1, q2, q3⟩ := Slot.own s
    have hne : q ≠ p := fun z => h rfl _ rfl (by rw [z]; exact Ft.root hb)
    refine ⟨q1, q2, ?_⟩
    cases d with
    | lst ds =>
      obtain ⟨vs, h1, h2⟩ := q3
      exact ⟨vs, by rw [upd_ne hne]; exact h1, h2⟩
    | dic ds =>
      obtain ⟨vs, h1, h2⟩ := q3
      exact ⟨vs, by rw [upd_ne hne]; exact h1, h2⟩
    | tdc ds =>
      obtain ⟨vs, h1, h2⟩ := q3
      exact ⟨vs, by rw [upd_ne hne]; exact h1, h2⟩
    | _ => exact q3.elim
  | dp =>
    cases x with
    | none => exact s.elim
    | some v =>
      obtain ⟨hv, r⟩ := s.1.upd (o := o) hb (h rfl v rfl)
      exact ⟨r, fun a f => s.2 a (f.upd hv)⟩
  | dq w =>
    cases x with
    | none => exact s.elim
    | some v =>
      obtain ⟨hv, r⟩ := s.1.1.upd (o := o) hb (h rfl v rfl)
      exact ⟨⟨r, fun a f => s.1.2 a (f.upd hv)⟩, s.2⟩
  | fn w =>
    cases x with
    | none => exact s.elim
    | some v => exact s
  | aq w =>
    cases x with
    | none => exact s.elim
    | some v => exact s
theorem Sta.mutD (S : Sta K G B0 H0 sg e B H) {i : Nat} {n : Md} {v : V} (hG : G[i]? = some n) (on : isO n = true) (hs : sg[i]? = some (some v)) (hf : Ft B H v p) (ho : Slot K H0 B (upd H p o) n (some v) d1) (hft : ∀ a, Ft B (upd H p o) v a → Ft B H v a ∨ ∀ j m w, j ≠ i → G[j]? = some m → isO m = true → sg[j]? = some (some w) → ¬ Ft B H w a) : Sta K G B0 H0 sg (e.set i d1) B (upd H p o) := by
  have hpb := hf.bnone
  have hp0 : H0 p = none := by
    obtain ⟨x, d, h1, h2, h3⟩ := S.sl.get hG
    rw [hs] at h1
    cases h1
    cases n with
    | ow =>
      cases v with
      | ref q =>
        have := h3.2.2.ft h3.2.1 hf
        subst this
        exact h3.1
      | _ => exact h3.elim
    | dp => exact h3.2 p hf
    | dq w => exact h3.1.2 p hf
    | _ => cases on
  have apart : ∀ (j : Nat) m w, j ≠ i → G[j]? = some m → isO m = true → sg[j]? = some (some w) → ¬ Ft B H w p := fun j m w hj gj oj sj f => hj (S.ds j i m n w v p gj oj hG on sj hs f hf)
  refine ⟨⟨S.ext.b, same_updH S.ext.h hp0, same_updH S.ext.s hpb, S.ext.n⟩, ?_, fun j1 j2 m1 m2 v1 v2 a g1 o1 g2 o2 t1 t2 f1 f2 => ?_⟩
  · have := Slots.turn (B' := B) (H' := upd H p o) (m' := n) (d' := d1) i S.sl (fun j m x d hj gj sj s => Slot.upd hpb s fun o v e => apart j m v hj gj o (by rw [sj, e])) (fun x hx => by
      rw [hs] at hx
      cases hx
      exact ho)
    rw [set_get_same hG] at this
    exact this
  · have other : ∀ (j : Nat) m w a, j ≠ i → G[j]? = some m → isO m = true → sg[j]? = some (some w) → Ft B (upd H p o) w a → Ft B H w a := fun j m w a hj gj oj sj f => f.upd fun z => apart j m w hj gj oj sj (by rw [z]; exact Ft.root hpb)
    by_cases e1 : j1 = i
    · subst e1
      by_cases e2 : j2 = j1
      · exact e2.symm
      · rw [hs] at t1
        cases t1
        have f2' := other j2 m2 v2 a e2 g2 o2 t2 f2
        rcases hft a f1 with f1 | f1
        · exact S.ds j1 j2 n m2 v v2 a hG on g2 o2 hs t2 f1 f2'
        · exact absurd f2' (f1 j2 m2 v2 e2 g2 o2 t2)
    · have f1' := other j1 m1 v1 a e1 g1 o1 t1 f1
      by_cases e2 : j2 = i
      · subst e2
        rw [hs] at t2
        cases t2
        rcases hft a f2 with f2 | f2
        · exact S.ds j1 j2 m1 n v1 v a g1 o1 hG on t1 hs f1' f2
        · exact absurd f1' (f2 j1 m1 v1 e1 g1 o1 t1)
      · exact S.ds j1 j2 m1 m2 v1 v2 a g1 o1 g2 o2 t1 t2 f1' (other j2 m2 v2 a e2 g2 o2 t2 f2)
theorem Sta.mut (S : Sta K G B0 H0 sg e B H) {i : Nat} (hG : G[i]? = some .ow) (hs : sg[i]? = some (some (.ref p))) (ho : Own K B (upd H p o) p d1) : Sta K G B0 H0 sg (e.set i d1) B (upd H p o) := by
  obtain ⟨x, d, h1, h2, h3⟩ := S.sl.get hG
  rw [hs] at h1
  cases h1
  obtain ⟨hp0, hpb, _⟩ := h3
  exact S.mutD hG rfl hs (Ft.root hpb) ⟨hp0, hpb, ho⟩ fun a f => .inl (by
    have := ho.ft hpb f
    subst this
    exact Ft.root hpb)
end
def MutL (K : KFr) (r : V → List V → Hp → VK → Prop) (g : List D → List D → Option (List D)) : Prop :=
  ∀ (B H : Hp) (p : Addr) (xs : List V) (ds : List D) (vs : List V) (as ds' : List D), H p = some (.lst xs) → Reps false K B xs ds → Reps false K B vs as → g ds as = some ds' →
    ∃ xs', Reps false K B xs' ds' ∧ ∀ Q : VK, (∀ v, Q v (upd H p (.lst xs'))) → r (.ref p) vs H Q
def ownAt (i : Nat) (e : List D) : R (List D) := (ofO e[i]?).bind lstOf
def ownL (i : Nat) (g : List D → List D → Option (List D)) (e ds as : List D) : R Fl := (ofO (g ds as)).bind fun ds' => .ok (.nx (e.set i (.lst ds')))
@[simp] theorem ownAt_eq (i : Nat) (e : List D) : ownAt i e = (ofO e[i]?).bind lstOf := rfl
@[simp] theorem ownL_eq (i : Nat) (g : List D → List D → Option (List D)) (e ds as : List D) : ownL i g e ds as = (ofO (g ds as)).bind fun ds' => .ok (.nx (e.set i (.lst ds'))) := rfl
@[simp] def sOwn (i : Nat) (g : List D → List D → Option (List D)) (fs : List D → R (List D)) (e : List D) : R Fl := (ownAt i e).bind fun ds => (fs e).bind fun as => ownL i g e ds as
section
variable {X : Cx} {G : List Md} {W : WX} {rm : Rm} {spos pos apos pn : Pos} {es : List Expr} {a : Expr} {fs : List D → R (List D)} {i : Nat} {x name : Str} {id : String} {r : V → List V → Hp → VK → Prop} {g : List D → List D → Option (List D)} {ts : List Tg}
theorem own_fin {K : KFr} {mg : Str → Option Value} {B0 H0 B H B1 H1 : Hp} {sg : St} {e as ds : List D} {vs : List V} {Dn : Ends} {p : Addr} (hd : MutL K r g) (S : Sta K G B0 H0 sg e B H) (hG : G[i]? = some .ow) (hs : sg[i]? = some (some (.ref p))) (he : e[i]? = some (.lst ds)) (x1 : Ext B H B1 H1) (rs : Reps false K B1 vs as)
    (k : KS K mg G W rm B0 H0 B Dn (ownL i g e ds as)) : r (.ref p) vs H1 fun _ H2 => Dn.nx sg H2 := by
  have S1 := S.later x1
  obtain ⟨x, d, h1, h2, h3⟩ := S1.sl.get hG
  rw [hs] at h1
  cases h1
  rw [he] at h2
  cases h2
  obtain ⟨hp0, hpb, ho⟩ := h3
  unfold ownL at k
  obtain ⟨xs, hx, hr⟩ := ho
  cases eg : g ds as with
  | none => rw [eg] at k; exact k.elim
  | some ds' =>
    rw [eg] at k
    obtain ⟨xs', hr', q⟩ := hd B1 H1 p xs ds vs as ds' hx hr rs eg
    exact q _ fun _ => k sg B1 _ (S1.mut hG hs (show Own K B1 (upd H1 p (.lst xs')) p (.lst ds') from ⟨xs', upd_same, hr'⟩)) x1.b
theorem own_get {K : KFr} {mg : Str → Option Value} {B0 H0 B H : Hp} {sg : St} {e : List D} {Dn : Ends} {kk : List D → R Fl} (S : Sta K G B0 H0 sg e B H) (hG : G[i]? = some .ow) (k : KS K mg G W rm B0 H0 B Dn ((ownAt i e).bind kk)) :
    ∃ p vs ds, sg[i]? = some (some (.ref p)) ∧ e[i]? = some (.lst ds) ∧ H p = some (.lst vs) ∧ Reps false K B vs ds ∧ KS K mg G W rm B0 H0 B Dn (kk ds) := by
  obtain ⟨v, d, h1, h2, h3⟩ := S.sl.get hG
  obtain ⟨p, rfl, hp0, hpb, ho⟩ := h3.own
  unfold ownAt at k
  rw [h2] at k
  cases d with
  | lst ds =>
    obtain ⟨vs, hh, hr⟩ := ho
    exact ⟨p, vs, ds, h1, h2, hh, hr, k⟩
  | _ => exact k.elim
theorem vs_own (slot : PySem.Slot "list" name id) (ty : typeOf (.builtin id) = pure (.type "method_descriptor")) (hm : MtR X id r) (hd : MutL (kf X) r g) (ha : PA X (a :: es) (vA (kf X) X.mg G W ts fs)) (hi : allIm ts = true := by rfl) (hG : G[i]? = some .ow := by rfl) (hN : X.N[i]? = some x := by rfl)
    (hv : Vis X.env.scope x := by first | exact Or.inl rfl | exact Or.inr (Or.inl rfl) | exact Or.inr (Or.inr rfl)) (hdb : (x == ("__debug__" : Str)) = false := by decide) (hcd : (x == ("__classdict__" : Str)) = false := by decide)
    (hs : swapsWith (.Call (.Attribute (.Name x pn) name apos) (a :: es) [] pos) none spos.line X.env = pure false := by rfl)
    (hbase : attributeBase (.Name x pn) name X.env (eval (.Name x pn) X.env) = eval (.Name x pn) X.env := by rfl) (hfew : ((backTo pos (starEach (a :: es) X.env)).all (fun x => !x.1) && (backToKw pos (keywordEach [] X.env)).all (fun x => x.1.isSome)
      && decide ((a :: es).length + ([] : List Keyword).length + (if ([] : List Keyword).isEmpty then 0 else 1) < 30)) = true := by rfl) (he : starEach (a :: es) X.env = (false, eval a X.env) :: starEach es X.env := by rfl) (hpl : (backTo pos (starEach es X.env)).any (·.1) = false := by rfl) (hline : (apos.endLine == pos.line) = true := by rfl) :
    PS X (.Expr (.Call (.Attribute (.Name x pn) name apos) (a :: es) [] pos) spos) (vS (kf X) X.mg G G W rm (sOwn i g fs)) := by
  refine ps_weak (ps_expr (pe_bm PySem.F.plainAttrs_list slot ty hm (pe_var hN hv hdb hcd) ha hbase hfew hline he hpl) hs) fun Dn sg H ⟨B0, H0, B, e, S, k⟩ => ?_
  obtain ⟨p, vs0, ds, h1, h2, h3, h4, k⟩ := own_get S hG k
  refine ⟨.ref p, h1, .inl ⟨rfl, vs0, SqL.of h3⟩, B0, H0, B, e, S, ?_⟩
  cases ef : fs e with
  | bad => rw [ef] at k; exact k.elim
  | ex c => rw [ef] at k; exact ks_ex S k
  | ok as =>
    rw [ef, R.bind_ok] at k
    intro B1 H1 vs x1 r1
    exact own_fin hd S hG h1 h2 x1 (reps_im hi r1) k
end
def gApp (ds : List D) : List D → Option (List D)
  | [d] => if ds.length < sizeLine then some (ds ++ [d]) else none
  | _ => none
@[simp] theorem gApp_one (ds : List D) (d : D) : gApp ds [d] = if ds.length < sizeLine then some (ds ++ [d]) else none := rfl
def gClear (_ : List D) : List D → Option (List D)
  | [] => some []
  | _ => none
@[simp] theorem gClear_nil (ds : List D) : gClear ds [] = some [] := rfl
def gRev (ds : List D) : List D → Option (List D)
  | [] => some ds.reverse
  | _ => none
@[simp] theorem gRev_nil (ds : List D) : gRev ds [] = some ds.reverse := rfl
section
variable {K : KFr}
theorem mu_app : MutL K rAppend gApp := by
  intro B H p xs ds vs as ds' hp hr ha e
  unfold gApp at e
  split at e
  · obtain ⟨v, rfl, h⟩ := reps1 ha
    split at e
    · cases e
      exact ⟨xs ++ [v], hr.append (.cons h .nil), fun Q q => ⟨p, xs, v, rfl, rfl, hp, by rw [hr.length]; assumption, q _⟩⟩
    · cases e
  · cases e
end
def setD (ds : List D) (k d : D) : R (List D) := match k with
  | .int k => (ofO (ixN ds.length k)).bind fun j => .ok (ds.set j d)
  | _ => .bad
@[simp] theorem setD_int (ds : List D) (k : Int) (d : D) : setD ds (.int k) d = (ofO (ixN ds.length k)).bind fun j => .ok (ds.set j d) := rfl
@[simp] def sAug (i : Nat) (g : D → D → Option D) (f : List D → R D) (e : List D) : R Fl := (ofO e[i]?).bind fun x => (f e).bind fun y => (ofO (g x y)).bind fun d => .ok (.nx (e.set i d))
section
variable {X : Cx} {G : List Md} {W : WX} {rm : Rm} {pos pn : Pos} {a : Expr} {f : List D → R D} {i : Nat} {x : Str} {m : Tg} {op : Operator} {r : R2} {g : D → D → Option D}
theorem vs_aug (ho : OpR X (inplaceOp op) r) (hd : Does2 (kf X) r g) (he : PE X a (vE (kf X) X.mg G W m f)) (hN : X.N.Nodup) (hG : G[i]? = some .im := by rfl) (hi : X.N[i]? = some x := by rfl) (hx : Loc X.env.scope x := by first | exact Or.inl rfl | exact Or.inr rfl)
    (hf : X.fn x = true ∨ X.env.scope.names.lookup x = some .local := by first | exact .inl rfl | exact .inr rfl) : PS X (.AugAssign (.Name x pn) op a pos) (vS (kf X) X.mg G (G.set i .im) W rm (sAug i g f)) := by
  refine ps_weak (ps_aug hN hi hx he ho hf) fun Dn sg H ⟨B0, H0, B, e, S, k⟩ => ?_
  obtain ⟨v, d, h1, h2, h3⟩ := S.sl.get hG
  cases v with
  | none => exact h3.elim
  | some v =>
    unfold sAug at k
    rw [h2, ofO_some, R.bind_ok] at k
    refine ⟨v, h1, ?_⟩
    refine seq1 (P := KS (kf X) X.mg (G.set i .im) W rm B0 H0 B Dn) S k (fun c k => ks_ex S k) (fun k => k) fun B1 H1 y dy x1 S1 r1 k1 => ?_
    cases eg : g d dy with
    | none => rw [eg] at k1; exact k1.elim
    | some dz =>
      rw [eg] at k1
      exact hd H1 v y d dy dz _ (Rep.mono (S.ext.s.trans x1.h) h3).wide (r1.all x1.s S1.ext.h) eg fun z hz => k1 _ B1 H1 (S1.set i (m := .im) (hz _) (fun q => by cases q)) x1.b
end
def isC : Tg → Bool
  | .im => true | .fr => true | .oc => true | _ => false
@[simp] theorem isC_im : isC .im = true := rfl
@[simp] theorem isC_fr : isC .fr = true := rfl
@[simp] theorem isC_oc : isC .oc = true := rfl
@[simp] theorem isC_ar : isC .ar = false := rfl
@[simp] theorem isC_lo : isC .lo = false := rfl
@[simp] def cnOk (m : Tg) (ds : List D) : Bool := isC m || ds.all flatD
theorem flat_reps {c c' : Bool} {K : KFr} {B B' : Hp} : ∀ {vs : List V} {ds : List D}, Reps c K B vs ds → ds.all flatD = true → Reps c' K B' vs ds
  | _, _, .nil, _ => .nil
  | _, _, .cons h r, f => by
    rw [List.all_cons, Bool.and_eq_true] at f
    exact .cons (flat_rep h f.1) (flat_reps r f.2)
section
variable {K : KFr} {H0 B H H' : Hp} {m : Tg} {v : V} {ds : List D}
theorem RepT.cnL (r : RepT K H0 H B H' m v (.lst ds)) (s : Same B H') (s0 : Same H0 H') (hc : cnOk m ds = true) : ∃ p vs, v = .ref p ∧ SqL K H' p vs ∧ Reps false K B vs ds := by
  cases m with
  | im =>
    obtain ⟨a, vs, rfl, h, q⟩ := Rep.sq r
    exact ⟨_, _, rfl, s.seq h, q⟩
  | ar =>
    obtain ⟨a, vs, rfl, h, q⟩ := Rep.sq r
    exact ⟨_, _, rfl, s0.seq h, flat_reps q hc⟩
  | lo =>
    obtain ⟨a, vs, rfl, h, q⟩ := Rep.sq r
    exact ⟨_, _, rfl, h, flat_reps q hc⟩
  | fr =>
    obtain ⟨p, rfl, _, _, vs, h, q⟩ := r
    exact ⟨p, vs, rfl, SqL.of h, q⟩
  | oc =>
    obtain ⟨p, rfl, vs, h, q⟩ := r
    exact ⟨p, vs, rfl, SqL.of h, q⟩
theorem RepT.cnR (r : RepT K H0 H B H' m v (.lst ds)) (s : Same B H') (hc : isC m = true) : ∃ p vs, v = .ref p ∧ Rd H' p (.lst vs) ∧ Reps false K B vs ds := by
  cases m with
  | im =>
    obtain ⟨a, vs, rfl, h, q⟩ := Rep.rd r
    exact ⟨_, _, rfl, same_rd s h, q⟩
  | ar => cases hc
  | lo => cases hc
  | fr =>
    obtain ⟨p, rfl, _, _, vs, h, q⟩ := r
    exact ⟨p, vs, rfl, .inl h, q⟩
  | oc =>
    obtain ⟨p, rfl, vs, h, q⟩ := r
    exact ⟨p, vs, rfl, .inl h, q⟩
theorem RepT.cnT (r : RepT K H0 H B H' m v (.tup ds)) (s : Same B H') (s0 : Same H0 H') (hc : cnOk m ds = true) : ∃ p vs, v = .ref p ∧ SqT K H' p vs ∧ Reps false K B vs ds := by
  cases m with
  | im =>
    obtain ⟨a, vs, rfl, h, q⟩ := Rep.rdT r
    exact ⟨_, _, rfl, .inl (same_rd s h), q⟩
  | ar =>
    obtain ⟨a, vs, rfl, h, q⟩ := Rep.rdT r
    exact ⟨_, _, rfl, .inl (same_rd s0 h), flat_reps q hc⟩
  | lo =>
    obtain ⟨a, vs, rfl, h, q⟩ := Rep.rdT r
    exact ⟨_, _, rfl, .inl h, flat_reps q hc⟩
  | fr =>
    obtain ⟨p, rfl, _, _, h⟩ := r
    exact h.elim
  | oc =>
    obtain ⟨p, rfl, h⟩ := r
    exact h.elim
end
end L2.VL
set_option Elab.async false
set_option linter.all false
set_option maxRecDepth 100000
set_option maxHeartbeats 4000000
namespace L2.VL
open PySem PySem.Spec PyProof.Rows
def cutL {α : Type} (xs : List α) (lo hi : Option Int) : List α := (xs.drop (HT.sIx xs.length 0 lo)).take (HT.sIx xs.length xs.length hi - HT.sIx xs.length 0 lo)
theorem reps_cut {c : Bool} {K : KFr} {B : Hp} {vs : List V} {ds : List D} (r : Reps c K B vs ds) (lo hi : Option Int) : Reps c K B (cutV vs lo hi) (cutL ds lo hi) := by
  unfold cutV cutL
  rw [r.length]
  exact (r.drop _).take _
def prtOf : Option D → R (Option Int)
  | none => .ok none
  | some (.int i) => .ok (some i)
  | _ => .bad
@[simp] theorem prtOf_none : prtOf none = .ok none := rfl
@[simp] theorem prtOf_int (i : Int) : prtOf (some (.int i)) = .ok (some i) := rfl
@[simp] def pNo (_ : List D) : R (Option Int) := .ok none
@[simp] def pAt (f : List D → R D) (e : List D) : R (Option Int) := (f e).bind fun d => prtOf (some d)
def slD (m : Tg) (lo hi : Option Int) : D → R D
  | .lst ds => if cnOk m ds then .ok (.lst (cutL ds lo hi)) else .bad
  | _ => .bad
def slS (lo hi : Option Int) : D → R D
  | .str z => if z.length ≤ sizeLine then .ok (.str (cutS z lo hi)) else .bad
  | _ => .bad
@[simp] theorem slD_lst (m : Tg) (lo hi : Option Int) (ds : List D) : slD m lo hi (.lst ds) = if cnOk m ds then .ok (.lst (cutL ds lo hi)) else .bad := rfl
@[simp] theorem slS_str (lo hi : Option Int) (z : Str) : slS lo hi (.str z) = if z.length ≤ sizeLine then .ok (.str (cutS z lo hi)) else .bad := rfl
@[simp] def eSlL (m : Tg) (f : List D → R D) (pl ph : List D → R (Option Int)) (e : List D) : R D := (f e).bind fun d => (pl e).bind fun lo => (ph e).bind fun hi => slD m lo hi d
@[simp] def eSlS (f : List D → R D) (pl ph : List D → R (Option Int)) (e : List D) : R D := (f e).bind fun d => (pl e).bind fun lo => (ph e).bind fun hi => slS lo hi d
def KO (mg : Str → Option Value) (W : WX) (sg : St) (B H : Hp) (Q : Option Int → Hp → Prop) : R (Option Int) → Prop
  | .ok b => ∀ B' H', Ext B H B' H' → Q b H'
  | .ex c => ∀ B' H' a, Ext B H B' H' → mg c = some (.ref a) → W (.ref a) none sg H'
  | .bad => False
def vO (K : KFr) (mg : Str → Option Value) (G : List Md) (W : WX) (f : List D → R (Option Int)) : TO := fun sg H Q =>
  ∃ B0 H0 B e, Sta K G B0 H0 sg e B H ∧ KO mg W sg B H Q (f e)
theorem po_weak {X : Cx} {o : Option Expr} {t t' : TO} (h : PO X o t) (w : ∀ sg H Q, t' sg H Q → t sg H Q) : PO X o t' := ⟨fun pins s σ H Q I q => h.run pins s σ H Q I (w σ H Q q)⟩
section
variable {X : Cx} {G : List Md} {W : WX} {a : Expr} {f : List D → R D} {m : Tg} {lo hi : Option Expr} {pl ph : List D → R (Option Int)} {p2 pos : Pos}
theorem vo_none : PO X none (vO (kf X) X.mg G W pNo) := po_weak po_none fun sg H Q ⟨B0, H0, B, e, S, k⟩ => k B H (.refl S.ext.s)
theorem vo_some (h : PE X a (vE (kf X) X.mg G W m f)) : PO X (some a) (vO (kf X) X.mg G W (pAt f)) := by
  refine po_weak (po_some h) fun sg H Q ⟨B0, H0, B, e, S, k⟩ => ?_
  refine seq1 (P := KO X.mg W sg B H Q) S k (fun c k => k) (fun k => k) fun B1 H1 x d x1 S1 r1 k1 => ?_
  have r := r1.all x1.s S1.ext.h
  cases r with
  | int i => exact ⟨i, rfl, k1 B1 H1 x1⟩
  | _ => exact k1.elim
theorem seqO {α : Type} {K : KFr} {mg : Str → Option Value} {sg : St} {H H0 B0 B : Hp} {e : List D} {kk : Option Int → R α} {P : R α → Prop} (S : Sta K G B0 H0 sg e B H) {Rr : Option Int → Hp → Prop}
    (h : P ((pl e).bind kk)) (hx : ∀ c, P (.ex c) → ∀ B' H' a, Ext B H B' H' → mg c = some (.ref a) → W (.ref a) none sg H') (hb : ¬ P .bad)
    (fin : ∀ B1 H1 b, Ext B H B1 H1 → Sta K G B0 H0 sg e B1 H1 → P (kk b) → Rr b H1) : vO K mg G W pl sg H Rr := by
  refine ⟨B0, H0, B, e, S, ?_⟩
  cases ea : pl e with
  | bad => rw [ea] at h; exact (hb h).elim
  | ex c => rw [ea] at h; exact hx c h
  | ok d =>
    rw [ea] at h
    exact fun B1 H1 x1 => fin B1 H1 d x1 (S.later x1) h
theorem slice_of {K : KFr} {mg : Str → Option Value} {r : V → Option Int → Option Int → Hp → VK → Prop} {kk : Option Int → Option Int → D → R D} {mr : Tg} (sg : St) (H : Hp) (Q : VK)
    (h : vE K mg G W mr (fun e => (f e).bind fun d => (pl e).bind fun lo => (ph e).bind fun hi => kk lo hi d) sg H Q)
    (fin : ∀ B0 H0 B e B2 H2 x d lo hi, Sta K G B0 H0 sg e B2 H2 → Ext B H B2 H2 → RepT K H0 H B2 H2 m x d → KE K mg W sg H0 B H Q mr (kk lo hi d) → r x lo hi H2 Q) :
    tSl r (vE K mg G W m f) (vO K mg G W pl) (vO K mg G W ph) sg H Q := by
  obtain ⟨B0, H0, B, e, S, k⟩ := h
  refine seq1 (P := KE K mg W sg H0 B H Q mr) S k (fun c k => k.ex_of) (fun k => k) fun B1 H1 x d x1 S1 r1 k1 => ?_
  refine seqO (P := KE K mg W sg H0 B H Q mr) S1 k1 (fun c k B' H' a y hm => k B' H' a (x1.trans y) hm) (fun k => k) fun B2 H2 lo x2 S2 k2 => ?_
  refine seqO (P := KE K mg W sg H0 B H Q mr) S2 k2 (fun c k B' H' a y hm => k B' H' a ((x1.trans x2).trans y) hm) (fun k => k) fun B3 H3 hi x3 S3 k3 => ?_
  exact fin B0 H0 B e B3 H3 x d lo hi S3 ((x1.trans x2).trans x3) (r1.later (x2.trans x3)) k3
theorem ve_slL (ha : PE X a (vE (kf X) X.mg G W m f)) (hl : PO X lo (vO (kf X) X.mg G W pl)) (hh : PO X hi (vO (kf X) X.mg G W ph)) : PE X (.Subscript a (.Slice lo hi none p2) pos) (vE (kf X) X.mg G W .fr (eSlL m f pl ph)) := by
  refine pe_weak (pe_slice sl_list ha hl hh) fun sg H Q h => slice_of (kk := fun lo hi d => slD m lo hi d) sg H Q h fun B0 H0 B e B2 H2 x d l u S2 x2 r k => ?_
  cases d with
  | lst ds =>
    rw [slD_lst] at k
    by_cases hc : cnOk m ds = true
    · rw [if_pos hc] at k
      obtain ⟨p, vs, rfl, hp, hr⟩ := r.cnL x2.s S2.ext.h hc
      refine ⟨p, vs, rfl, hp, fun q hq => ?_⟩
      exact k B2 _ _ (x2.trans (.newH x2.s hq)) ⟨q, rfl, x2.h.free hq, x2.s.free hq, _, upd_same, reps_cut hr l u⟩
    · rw [if_neg hc] at k; exact k.elim
  | _ => exact k.elim
theorem ve_slS (ha : PE X a (vE (kf X) X.mg G W m f)) (hl : PO X lo (vO (kf X) X.mg G W pl)) (hh : PO X hi (vO (kf X) X.mg G W ph)) : PE X (.Subscript a (.Slice lo hi none p2) pos) (vE (kf X) X.mg G W .im (eSlS f pl ph)) := by
  refine pe_weak (pe_slice sl_str ha hl hh) fun sg H Q h => slice_of (kk := fun lo hi d => slS lo hi d) sg H Q h fun B0 H0 B e B2 H2 x d l u S2 x2 r k => ?_
  have q := r.all x2.s S2.ext.h
  cases q with
  | str z =>
    rw [slS_str] at k
    by_cases hc : z.length ≤ sizeLine
    · rw [if_pos hc] at k
      exact ⟨z, rfl, hc, k B2 H2 _ x2 (.str _)⟩
    · rw [if_neg hc] at k; exact k.elim
  | _ => exact k.elim
end
def asL (m : Tg) : D → R D
  | .lst ds => if cnOk m ds then .ok (.lst ds) else .bad
  | .tup ds => if cnOk m ds then .ok (.lst ds) else .bad
  | _ => .bad
def asT (m : Tg) : D → R D
  | .lst ds => if cnOk m ds then .ok (.tup ds) else .bad
  | _ => .bad
@[simp] theorem asL_lst (m : Tg) (ds : List D) : asL m (.lst ds) = if cnOk m ds then .ok (.lst ds) else .bad := rfl
@[simp] theorem asL_tup (m : Tg) (ds : List D) : asL m (.tup ds) = if cnOk m ds then .ok (.lst ds) else .bad := rfl
@[simp] theorem asT_lst (m : Tg) (ds : List D) : asT m (.lst ds) = if cnOk m ds then .ok (.tup ds) else .bad := rfl
@[simp] def eAsL (m : Tg) (f : List D → R D) (e : List D) : R D := (f e).bind (asL m)
@[simp] def eAsT (m : Tg) (f : List D → R D) (e : List D) : R D := (f e).bind (asT m)
section
variable {X : Cx} {G : List Md} {W : WX} {a : Expr} {f : List D → R D} {m : Tg} {p pos : Pos}
theorem ve_list (hm : X.mg "list" = none) (ha : PE X a (vE (kf X) X.mg G W m f)) (hg : Gl X "list" := by rfl) (he : starEach [a] X.env = (false, eval a X.env) :: starEach [] X.env := by rfl) (hpl : (backTo pos (starEach [] X.env)).any (·.1) = false := by rfl) :
    PE X (.Call (.Name "list" p) [a] [] pos) (vE (kf X) X.mg G W .fr (eAsL m f)) := by
  refine pe_weak (pe_callTy call_list_of hg hm (by decide +kernel) (pa_cons ha pa_nil he) (by decide) (by decide) he hpl) fun sg H Q ⟨B0, H0, B, e, S, k⟩ => ?_
  refine seq1 (P := KE (kf X) X.mg W sg H0 B H Q .fr) S k (fun c k => k) (fun k => k) fun B1 H1 x d x1 S1 r1 k1 => ?_
  have fin : ∀ {p vs ds}, x = .ref p → (SqL (kf X) H1 p vs ∨ SqT (kf X) H1 p vs) → Reps false (kf X) B1 vs ds → KE (kf X) X.mg W sg H0 B H Q .fr (.ok (.lst ds)) → ∃ p ys, [x] = [V.ref p] ∧ (SqL (kf X) H1 p ys ∨ SqT (kf X) H1 p ys) ∧ ∀ l, H1 l = none → Q (.ref l) (upd H1 l (.lst ys)) := fun {p vs ds} ex hp hr k =>
    ⟨p, vs, by rw [ex], hp, fun l hl => k B1 _ _ (x1.trans (.newH x1.s hl)) ⟨l, rfl, x1.h.free hl, x1.s.free hl, _, upd_same, hr⟩⟩
  cases d with
  | lst ds =>
    rw [asL_lst] at k1
    by_cases hc : cnOk m ds = true
    · rw [if_pos hc] at k1
      obtain ⟨q, vs, ex, hp, hr⟩ := r1.cnL x1.s S1.ext.h hc
      exact fin ex (.inl hp) hr k1
    · rw [if_neg hc] at k1; exact k1.elim
  | tup ds =>
    rw [asL_tup] at k1
    by_cases hc : cnOk m ds = true
    · rw [if_pos hc] at k1
      obtain ⟨q, vs, ex, hp, hr⟩ := r1.cnT x1.s S1.ext.h hc
      exact fin ex (.inr hp) hr k1
    · rw [if_neg hc] at k1; exact k1.elim
  | _ => exact k1.elim
theorem ve_tuple (hm : X.mg "tuple" = none) (ha : PE X a (vE (kf X) X.mg G W m f)) (hg : Gl X "tuple" := by rfl) (he : starEach [a] X.env = (false, eval a X.env) :: starEach [] X.env := by rfl) (hpl : (backTo pos (starEach [] X.env)).any (·.1) = false := by rfl) :
    PE X (.Call (.Name "tuple" p) [a] [] pos) (vE (kf X) X.mg G W .im (eAsT m f)) := by
  refine pe_weak (pe_callTy call_tupF hg hm (by decide +kernel) (pa_cons ha pa_nil he) (by decide) (by decide) he hpl) fun sg H Q ⟨B0, H0, B, e, S, k⟩ => ?_
  refine seq1 (P := KE (kf X) X.mg W sg H0 B H Q .im) S k (fun c k => k) (fun k => k) fun B1 H1 x d x1 S1 r1 k1 => ?_
  cases d with
  | lst ds =>
    rw [asT_lst] at k1
    by_cases hc : cnOk m ds = true
    · rw [if_pos hc] at k1
      obtain ⟨q, vs, rfl, hp, hr⟩ := r1.cnL x1.s S1.ext.h hc
      refine ⟨q, vs, rfl, .inl ⟨hp, fun l o hl ho => ?_⟩⟩
      have x2 : Ext B1 H1 (upd B1 l (.frz o (.tup vs))) (upd H1 l (.frz o (.tup vs))) := .newB x1.s hl
      exact k1 _ _ _ (x1.trans x2) (.tup ⟨o, upd_same, ho⟩ (hr.mono x2.b))
    · rw [if_neg hc] at k1; exact k1.elim
  | _ => exact k1.elim
end
def catL : D → D → R D
  | .lst as, .lst bs => if as.length + bs.length ≤ sizeLine then .ok (.lst (as ++ bs)) else .bad
  | _, _ => .bad
def catT : D → D → R D
  | .tup as, .tup bs => if as.length + bs.length ≤ sizeLine then .ok (.tup (as ++ bs)) else .bad
  | _, _ => .bad
@[simp] theorem catL_lst (as bs : List D) : catL (.lst as) (.lst bs) = if as.length + bs.length ≤ sizeLine then .ok (.lst (as ++ bs)) else .bad := rfl
@[simp] theorem catT_tup (as bs : List D) : catT (.tup as) (.tup bs) = if as.length + bs.length ≤ sizeLine then .ok (.tup (as ++ bs)) else .bad := rfl
@[simp] def eCatL (f g : List D → R D) (e : List D) : R D := (f e).bind fun x => (g e).bind fun y => catL x y
@[simp] def eCatT (f g : List D → R D) (e : List D) : R D := (f e).bind fun x => (g e).bind fun y => catT x y
def rCatR : R2 := fun x y H Q => ∃ l b xs zs, x = .ref l ∧ y = .ref b ∧ Rd H l (.lst xs) ∧ Rd H b (.lst zs) ∧ xs.length + zs.length ≤ sizeLine ∧ ∀ p, H p = none → Q (.ref p) (upd H p (.lst (xs ++ zs)))
section
variable {X : Cx} {G : List Md} {W : WX} {a b : Expr} {f g : List D → R D} {m1 m2 : Tg} {pos : Pos}
theorem inv_rdL {pins : List (Addr × Obj)} {sg : St} {H : Hp} {s : Shared} {l : Addr} {xs : List V} (I : Inv X pins sg H s) (h : Rd H l (.lst xs)) : ∃ (its : List Value) (n : Nat), Vals xs its ∧ s.heap.get? l = some { cls := .type "list", data := .seq its.toArray n } := by
  obtain ⟨_, its, n, r, e⟩ := h.ok I.hok
  exact ⟨its, n, r, e⟩
theorem op_catR : OpR X (binaryOp .Add) rCatR := by
  intro pins s sg H x y v u Q I rx ry hh
  obtain ⟨l, b, xs, zs, rfl, rfl, hl, hb, hz, q⟩ := hh
  cases rx
  cases ry
  obtain ⟨i1, n1, r1, e1⟩ := inv_rdL I hl
  obtain ⟨i2, n2, r2, e2⟩ := inv_rdL I hb
  have z1 := r1.length
  have z2 := r2.length
  refine PySem.P.add_list e1 e2 ?_ (by rw [List.size_toArray, List.size_toArray]; omega)
  rw [show i1.toArray ++ i2.toArray = (i1 ++ i2).toArray by simp]
  exact ⟨.ref _, _, I.lnew (t' := s.toks) (r1.append r2) (by rw [List.length_append]; omega), rfl, q _ I.fresh⟩
theorem ve_catL (ha : PE X a (vE (kf X) X.mg G W m1 f)) (hb : PE X b (vE (kf X) X.mg G W m2 g)) (h1 : isC m1 = true := by rfl) (h2 : isC m2 = true := by rfl) : PE X (.BinOp a .Add b pos) (vE (kf X) X.mg G W .fr (eCatL f g)) := by
  refine pe_weak (pe_op op_catR ha hb) fun sg H Q h => ?_
  refine seq2 (kk := fun x y => catL x y) h fun B0 H0 B e B2 H2 x y d1 d2 S S2 x2 r1 r2 k => ?_
  cases d1 with
  | lst as =>
    cases d2 with
    | lst bs =>
      obtain ⟨p, vs, rfl, hp, hr⟩ := r1.cnR x2.s h1
      obtain ⟨p', vs', rfl, hp', hr'⟩ := r2.cnR x2.s h2
      rw [catL_lst] at k
      by_cases hz : as.length + bs.length ≤ sizeLine
      · rw [if_pos hz] at k
        refine ⟨p, p', vs, vs', rfl, rfl, hp, hp', by rw [hr.length, hr'.length]; exact hz, fun q hq => ?_⟩
        exact k B2 _ _ (x2.trans (.newH x2.s hq)) ⟨q, rfl, x2.h.free hq, x2.s.free hq, _, upd_same, hr.append hr'⟩
      · rw [if_neg hz] at k; exact k.elim
    | _ => exact k.elim
  | _ => exact k.elim
theorem ve_catT (ha : PE X a (vE (kf X) X.mg G W .im f)) (hb : PE X b (vE (kf X) X.mg G W .im g)) : PE X (.BinOp a .Add b pos) (vE (kf X) X.mg G W .im (eCatT f g)) := by
  refine pe_weak (pe_op op_catF ha hb) fun sg H Q h => ?_
  refine seq2 (kk := fun x y => catT x y) h fun B0 H0 B e B2 H2 x y d1 d2 S S2 x2 r1 r2 k => ?_
  cases d1 with
  | tup as =>
    cases d2 with
    | tup bs =>
      have q1 : Rep false (kf X) B2 x (.tup as) := r1
      have q2 : Rep false (kf X) B2 y (.tup bs) := r2
      obtain ⟨p, vs, rfl, hp, hr⟩ := Rep.rdT q1
      obtain ⟨p', vs', rfl, hp', hr'⟩ := Rep.rdT q2
      rw [catT_tup] at k
      by_cases hz : as.length + bs.length ≤ sizeLine
      · rw [if_pos hz] at k
        refine ⟨p, p', vs, vs', rfl, rfl, .inl (same_rd x2.s hp), .inl (same_rd x2.s hp'), by rw [hr.length, hr'.length]; exact hz, fun z => ?_, fun _ z => ?_, fun _ _ q o hq ho => ?_⟩
        · subst z
          cases hr
          exact k B2 H2 _ x2 q2
        · subst z
          cases hr'
          rw [List.append_nil] at k
          exact k B2 H2 _ x2 q1
        · have x3 : Ext B2 H2 (upd B2 q (.frz o (.tup (vs ++ vs')))) (upd H2 q (.frz o (.tup (vs ++ vs')))) := .newB x2.s hq
          exact k _ _ _ (x2.trans x3) (.tup ⟨o, upd_same, ho⟩ ((hr.append hr').mono x3.b))
      · rw [if_neg hz] at k; exact k.elim
    | _ => exact k.elim
  | _ => exact k.elim
end
def mulL : D → D → R D
  | .lst as, .int k => if -(2 ^ 63) ≤ k ∧ k < 2 ^ 63 ∧ as.length * k.toNat ≤ sizeLine then .ok (.lst (List.replicate k.toNat as).flatten) else .bad
  | _, _ => .bad
@[simp] theorem mulL_lst (as : List D) (k : Int) : mulL (.lst as) (.int k) = if -(2 ^ 63) ≤ k ∧ k < 2 ^ 63 ∧ as.length * k.toNat ≤ sizeLine then .ok (.lst (List.replicate k.toNat as).flatten) else .bad := rfl
def gIsB : D → D → Option D
  | .bl a, .bl b => some (.bl (decide (a = b)))
  | _, _ => none
def gIsntB : D → D → Option D
  | .bl a, .bl b => some (.bl (!decide (a = b)))
  | _, _ => none
@[simp] theorem gIsB_bl (a b : Bool) : gIsB (.bl a) (.bl b) = some (.bl (decide (a = b))) := rfl
@[simp] theorem gIsntB_bl (a b : Bool) : gIsntB (.bl a) (.bl b) = some (.bl (!decide (a = b))) := rfl
def eqFl : D → D → Bool
  | .non, .non => true
  | .bl a, .bl b => a == b
  | .bl a, .int b => (if a then 1 else 0) == b
  | .int a, .bl b => a == (if b then 1 else 0)
  | .int a, .int b => a == b
  | .str a, .str b => a == b
  | _, _ => false
def inDs (x : D) (ds : List D) : Option Bool := if flatD x && ds.all flatD then some (ds.any fun y => eqFl y x) else none
def gIn (x : D) : D → Option D
  | .lst ds => (inDs x ds).map .bl
  | .tup ds => (inDs x ds).map .bl
  | _ => none
def gNotIn (x : D) : D → Option D
  | .lst ds => (inDs x ds).map fun b => .bl (!b)
  | .tup ds => (inDs x ds).map fun b => .bl (!b)
  | _ => none
@[simp] theorem gIn_lst (x : D) (ds : List D) : gIn x (.lst ds) = (inDs x ds).map .bl := rfl
@[simp] theorem gIn_tup (x : D) (ds : List D) : gIn x (.tup ds) = (inDs x ds).map .bl := rfl
@[simp] theorem gNotIn_lst (x : D) (ds : List D) : gNotIn x (.lst ds) = (inDs x ds).map fun b => .bl (!b) := rfl
@[simp] theorem gNotIn_tup (x : D) (ds : List D) : gNotIn x (.tup ds) = (inDs x ds).map fun b => .bl (!b) := rfl
section
variable {K : KFr} {H : Hp}
theorem flat_v {x : V} {d : D} (r : Rep true K H x d) (h : flatD d = true) : flatV x = true := by
  cases r <;> first | rfl | cases h
theorem eq_v {x y : V} {d d' : D} (r : Rep true K H x d) (r' : Rep true K H y d') (h : flatD d = true) (h' : flatD d' = true) : eqV x y = eqFl d d' := by
  cases r <;> cases r' <;> rfl
theorem flat_vs : ∀ {vs : List V} {ds : List D}, Reps true K H vs ds → ds.all flatD = true → vs.all flatV = true
  | _, _, .nil, _ => rfl
  | _, _, .cons r t, h => by
    rw [List.all_cons, Bool.and_eq_true] at h ⊢
    exact ⟨flat_v r h.1, flat_vs t h.2⟩
theorem in_vs {x : V} {d : D} (r : Rep true K H x d) (h : flatD d = true) : ∀ {vs : List V} {ds : List D}, Reps true K H vs ds → ds.all flatD = true → inV x vs = ds.any fun y => eqFl y d
  | _, _, .nil, _ => rfl
  | _, _, .cons q t, h' => by
    rw [List.all_cons, Bool.and_eq_true] at h'
    have ih := in_vs r h t h'.2
    unfold inV at ih ⊢
    rw [List.any_cons, List.any_cons, ih, eq_v q r h'.1 h]
theorem d_in : Does2 K (rIn K false) gIn := by
  intro H x y d1 d2 d Q r1 r2 e q
  have fin : ∀ {p : Addr} {vs : List V} {ds : List D}, y = .ref p → (SqL K H p vs ∨ SqT K H p vs) → Reps true K H vs ds → (inDs d1 ds).map D.bl = some d → rIn K false x y H Q := fun {p vs ds} ey hp hr e => by
    unfold inDs at e
    by_cases hf : (flatD d1 && ds.all flatD) = true
    · rw [if_pos hf] at e
      rw [Bool.and_eq_true] at hf
      cases e
      refine ⟨p, vs, ey, hp, flat_v r1 hf.1, flat_vs hr hf.2, ?_⟩
      rw [if_neg (by decide), in_vs r1 hf.1 hr hf.2]
      exact q _ fun _ => .bl _
    · rw [if_neg hf] at e; cases e
  cases d2 with
  | lst ds =>
    obtain ⟨p, vs, rfl, hp, hr⟩ := r2.sq
    exact fin rfl (.inl hp) hr e
  | tup ds =>
    obtain ⟨p, vs, rfl, hp, hr⟩ := r2.rdT
    exact fin rfl (.inr (.inl hp)) hr e
  | _ => cases e
theorem d_notIn : Does2 K (rIn K true) gNotIn := by
  intro H x y d1 d2 d Q r1 r2 e q
  have fin : ∀ {p : Addr} {vs : List V} {ds : List D}, y = .ref p → (SqL K H p vs ∨ SqT K H p vs) → Reps true K H vs ds → (inDs d1 ds).map (fun b => D.bl (!b)) = some d → rIn K true x y H Q := fun {p vs ds} ey hp hr e => by
    unfold inDs at e
    by_cases hf : (flatD d1 && ds.all flatD) = true
    · rw [if_pos hf] at e
      rw [Bool.and_eq_true] at hf
      cases e
      refine ⟨p, vs, ey, hp, flat_v r1 hf.1, flat_vs hr hf.2, ?_⟩
      rw [if_pos rfl, in_vs r1 hf.1 hr hf.2]
      exact q _ fun _ => .bl _
    · rw [if_neg hf] at e; cases e
  cases d2 with
  | lst ds =>
    obtain ⟨p, vs, rfl, hp, hr⟩ := r2.sq
    exact fin rfl (.inl hp) hr e
  | tup ds =>
    obtain ⟨p, vs, rfl, hp, hr⟩ := r2.rdT
    exact fin rfl (.inr (.inl hp)) hr e
  | _ => cases e
end
theorem op_inA {X : Cx} : OpR X (compareOp .In) (rIn (kf X) false) := op_in_seq
theorem op_notInA {X : Cx} : OpR X (compareOp .NotIn) (rIn (kf X) true) := op_notIn_seq
def sign1 (x : Str) : Option Nat := match x.cps.toList with
  | [c] => some c
  | _ => none
theorem sign1_eq {x : Str} {c : Nat} (h : sign1 x = some c) : x = ⟨#[c]⟩ := by
  obtain ⟨⟨l⟩⟩ := x
  unfold sign1 at h
  split at h
  · rename_i c' e
    cases h
    have e : l = [c] := e
    rw [e]
  · cases h
@[simp] theorem sign1_one (c : Nat) : sign1 ⟨#[c]⟩ = some c := rfl
def gInS : D → D → Option D
  | .str x, .str z => (sign1 x).map fun c => .bl (decide (c ∈ z.cps.toList))
  | _, _ => none
def gNotInS : D → D → Option D
  | .str x, .str z => (sign1 x).map fun c => .bl (!decide (c ∈ z.cps.toList))
  | _, _ => none
@[simp] theorem gInS_str (x z : Str) : gInS (.str x) (.str z) = (sign1 x).map fun c => .bl (decide (c ∈ z.cps.toList)) := rfl
@[simp] theorem gNotInS_str (x z : Str) : gNotInS (.str x) (.str z) = (sign1 x).map fun c => .bl (!decide (c ∈ z.cps.toList)) := rfl
theorem op_notInS {X : Cx} : OpR X (compareOp .NotIn) (fun x y H Q => ∃ (c : Nat) (z : Str), x = .str ⟨#[c]⟩ ∧ y = .str z ∧ Q (.bl (!decide (c ∈ z.cps.toList))) H) := op_notIn_sign
theorem d_notInS {K : KFr} : Does2 K (fun x y H Q => ∃ (c : Nat) (z : Str), x = .str ⟨#[c]⟩ ∧ y = .str z ∧ Q (.bl (!decide (c ∈ z.cps.toList))) H) gNotInS := by
  intro H x y d1 d2 d Q r1 r2 e q
  cases r1 with
  | str x =>
    cases r2 with
    | str z =>
      rw [gNotInS_str] at e
      cases es : sign1 x with
      | none => rw [es] at e; cases e
      | some c =>
        rw [es] at e
        cases e
        exact ⟨c, z, by rw [sign1_eq es], rfl, q _ fun _ => .bl _⟩
    | _ => cases e
  | _ => cases e
def gSum : List D → Option D
  | [.lst ds] => (asInts ds).map fun ns => .int ns.sum
  | _ => none
@[simp] theorem gSum_lst (ds : List D) : gSum [.lst ds] = (asInts ds).map fun ns => .int ns.sum := rfl
def gMax : List D → Option D
  | [.int i, .int j] => some (.int (if j > i then j else i))
  | [.lst ds] => (asInts ds).bind fun ns => ns.max?.map .int
  | _ => none
def gMin : List D → Option D
  | [.int i, .int j] => some (.int (if j < i then j else i))
  | [.lst ds] => (asInts ds).bind fun ns => ns.min?.map .int
  | _ => none
@[simp] theorem gMax_int (i j : Int) : gMax [.int i, .int j] = some (.int (if j > i then j else i)) := rfl
@[simp] theorem gMin_int (i j : Int) : gMin [.int i, .int j] = some (.int (if j < i then j else i)) := rfl
@[simp] theorem gMax_lst (ds : List D) : gMax [.lst ds] = (asInts ds).bind fun ns => ns.max?.map .int := rfl
@[simp] theorem gMin_lst (ds : List D) : gMin [.lst ds] = (asInts ds).bind fun ns => ns.min?.map .int := rfl
theorem reps_ints_of {K : KFr} {H : Hp} : ∀ {vs : List V} {ns : List Int}, Reps true K H vs (ns.map D.int) → vs = ns.map V.int
  | _, [], .nil => rfl
  | _, n :: ns, .cons h r => by
    cases h
    rw [reps_ints_of r]
    rfl
section
variable {K : KFr} {X : Cx}
theorem d_sum : DoesN K (rSum K) gSum := by
  intro H vs ds d Q r e q
  unfold gSum at e
  split at e
  · rename_i ds
    obtain ⟨v, rfl, h⟩ := reps1 r
    obtain ⟨a, us, rfl, hp, hr⟩ := h.sq
    cases ei : asInts ds with
    | none => rw [ei] at e; cases e
    | some ns =>
      rw [ei] at e
      cases e
      rw [asInts_eq ei] at hr
      have := reps_ints_of hr
      subst this
      exact ⟨a, ns, rfl, hp, q _ fun _ => .int _⟩
  · cases e
def rMaxA (K : KFr) : List V → Hp → VK → Prop := fun xs H Q => (∃ i j, xs = [.int i, .int j] ∧ Q (.int (if j > i then j else i)) H) ∨ rMax K xs H Q
def rMinA (K : KFr) : List V → Hp → VK → Prop := fun xs H Q => (∃ i j, xs = [.int i, .int j] ∧ Q (.int (if j < i then j else i)) H) ∨ rMin K xs H Q
theorem call_maxA (hc : X.calm = true) : CallR X (.builtin "max") (rMaxA (kf X)) := (call_max2 hc).or (cr_max hc)
theorem call_minA (hc : X.calm = true) : CallR X (.builtin "min") (rMinA (kf X)) := (call_min2 hc).or (cr_min hc)
theorem d_max : DoesN K (rMaxA K) gMax := by
  intro H vs ds d Q r e q
  unfold gMax at e
  split at e
  · obtain ⟨v, v', rfl, h1, h2⟩ := reps2 r
    cases h1
    cases h2
    cases e
    exact .inl ⟨_, _, rfl, q _ fun _ => .int _⟩
  · rename_i ds
    obtain ⟨v, rfl, h⟩ := reps1 r
    obtain ⟨a, us, rfl, hp, hr⟩ := h.sq
    cases ei : asInts ds with
    | none => rw [ei] at e; cases e
    | some ns =>
      rw [ei] at e
      rw [asInts_eq ei] at hr
      have := reps_ints_of hr
      subst this
      have e : ns.max?.map D.int = some d := e
      cases em : ns.max? with
      | none => rw [em] at e; cases e
      | some m =>
        rw [em] at e
        cases e
        obtain ⟨h1, h2⟩ := List.max?_eq_some_iff.mp em
        refine .inr ⟨a, ns, rfl, hp, List.length_pos_of_mem h1, fun m' hm hle => ?_⟩
        rw [show m' = m from Int.le_antisymm (h2 m' hm) (hle m h1)]
        exact q _ fun _ => .int _
  · cases e
theorem d_min : DoesN K (rMinA K) gMin := by
  intro H vs ds d Q r e q
  unfold gMin at e
  split at e
  · obtain ⟨v, v', rfl, h1, h2⟩ := reps2 r
    cases h1
    cases h2
    cases e
    exact .inl ⟨_, _, rfl, q _ fun _ => .int _⟩
  · rename_i ds
    obtain ⟨v, rfl, h⟩ := reps1 r
    obtain ⟨a, us, rfl, hp, hr⟩ := h.sq
    cases ei : asInts ds with
    | none => rw [ei] at e; cases e
    | some ns =>
      rw [ei] at e
      rw [asInts_eq ei] at hr
      have := reps_ints_of hr
      subst this
      have e : ns.min?.map D.int = some d := e
      cases em : ns.min? with
      | none => rw [em] at e; cases e
      | some m =>
        rw [em] at e
        cases e
        obtain ⟨h1, h2⟩ := List.min?_eq_some_iff.mp em
        refine .inr ⟨a, ns, rfl, hp, List.length_pos_of_mem h1, fun m' hm hle => ?_⟩
        rw [show m' = m from Int.le_antisymm (hle m h1) (h2 m' hm)]
        exact q _ fun _ => .int _
  · cases e
def gStr : List D → Option D
  | [.int i] => if i.natAbs.log2 < 1920 then some (.str (Str.ofString (toString i))) else none
  | _ => none
@[simp] theorem gStr_int (i : Int) : gStr [.int i] = if i.natAbs.log2 < 1920 then some (.str (Str.ofString (toString i))) else none := rfl
end
end L2.VL
set_option Elab.async false
set_option linter.all false
set_option maxRecDepth 100000
set_option maxHeartbeats 4000000
namespace L2.VL
open PySem PySem.Spec PyProof.Rows
def wipeG : List Md → List Nat → List Md
  | G, [] => G
  | G, i :: is => (wipeG G is).set i .un
section
variable {K : KFr} {B0 H0 B H : Hp}
theorem Slots.forget : ∀ {ms : List Md} {xs : List (Option V)} {ds : List D} (i : Nat) (y : Option V), Slots K H0 B H ms xs ds → Slots K H0 B H (ms.set i .un) (xs.set i y) ds
  | [], [], [], _, _, _ => trivial
  | _ :: _, _ :: _, _ :: _, 0, _, ⟨_, r⟩ => ⟨trivial, r⟩
  | _ :: _, _ :: _, _ :: _, i + 1, y, ⟨q, r⟩ => ⟨q, Slots.forget i y r⟩
theorem Sta.wipe {e : List D} : ∀ {is : List Nat} {G : List Md} {sg : St}, Sta K G B0 H0 sg e B H → Sta K (wipeG G is) B0 H0 (L2.wipe sg is) e B H
  | [], _, _, S => S
  | i :: is, G, sg, S => by
    have S1 := Sta.wipe (is := is) S
    refine ⟨S1.ext, S1.sl.forget i none, fun a b m n v w q g1 o1 g2 o2 t1 t2 f1 f2 => ?_⟩
    have g1 : ((wipeG G is).set i .un)[a]? = some m := g1
    have g2 : ((wipeG G is).set i .un)[b]? = some n := g2
    have t1 : ((L2.wipe sg is).set i none)[a]? = some (some v) := t1
    have t2 : ((L2.wipe sg is).set i none)[b]? = some (some w) := t2
    rcases get_set g1 with ⟨_, z⟩ | g1
    · rw [← z] at o1; cases o1
    · rcases get_set g2 with ⟨_, z⟩ | g2
      · rw [← z] at o2; cases o2
      · rcases get_set t1 with ⟨_, z⟩ | t1
        · cases z
        · rcases get_set t2 with ⟨_, z⟩ | t2
          · cases z
          · exact S1.ds a b m n v w q g1 o1 g2 o2 t1 t2 f1 f2
end
theorem wipe_get (sg : St) : ∀ (is : List Nat) (j : Nat), (L2.wipe sg is)[j]? = if j ∈ is ∧ j < sg.length then some none else sg[j]?
  | [], j => by simp [L2.wipe]
  | i :: is, j => by
    show ((L2.wipe sg is).set i none)[j]? = _
    rw [List.getElem?_set]
    by_cases e : i = j
    · subst e
      rw [if_pos rfl, wipe_length]
      by_cases h : i < sg.length
      · simp [h]
      · simp [h]
    · rw [if_neg e, wipe_get sg is j]
      have : j ≠ i := fun z => e z.symm
      simp [this]
theorem wipe_ag {is vs : List Nat} {sg sg1 : St} (a : Ag is (L2.wipe sg vs) sg1) (h : ∀ i ∈ is, i ∈ vs) : L2.wipe sg1 vs = L2.wipe sg vs := by
  apply List.ext_getElem?
  intro j
  have hl : sg1.length = sg.length := by rw [a.1, wipe_length]
  rw [wipe_get sg1 vs j, wipe_get sg vs j, hl]
  by_cases hj : j ∈ vs ∧ j < sg.length
  · rw [if_pos hj, if_pos hj]
  · rw [if_neg hj, if_neg hj]
    by_cases hv : j ∈ vs
    · have : ¬ j < sg.length := fun z => hj ⟨hv, z⟩
      rw [List.getElem?_eq_none (by omega), List.getElem?_eq_none (by omega)]
    · rw [a.2 j (fun z => hv (h j z)), wipe_get sg vs j, if_neg (fun z => hv z.1)]
def noX {α : Type} : R α → R α
  | .ex _ => .bad
  | r => r
@[simp] theorem noX_ok {α : Type} (a : α) : noX (R.ok a) = .ok a := rfl
@[simp] theorem noX_ex {α : Type} (c : Str) : noX (R.ex c : R α) = .bad := rfl
@[simp] theorem noX_bad {α : Type} : noX (R.bad : R α) = .bad := rfl
abbrev W0 : WX := fun _ _ _ _ => False
def compL (t : D → List D → Option (List D)) (c : List D → R Bool) (g : List D → R D) (e : List D) : List D → R (List D)
  | [] => .ok []
  | d :: ds => (ofO (t d e)).bind fun e1 => (noX (c e1)).bind fun b => if b then (noX (g e1)).bind fun y => (compL t c g e ds).bind fun ys => .ok (y :: ys) else compL t c g e ds
def fitL (ys : List D) : R D := if ys.length ≤ sizeLine then .ok (.lst ys) else .bad
@[simp] theorem fitL_eq (ys : List D) : fitL ys = if ys.length ≤ sizeLine then .ok (.lst ys) else .bad := rfl
@[simp] def eComp (it : List D → R (List D)) (t : D → List D → Option (List D)) (c : List D → R Bool) (g : List D → R D) (e : List D) : R D := (it e).bind fun ds => (compL t c g e ds).bind fitL
@[simp] def tTrue (_ : List D) : R Bool := .ok true
theorem vts_nil {X : Cx} {G : List Md} {W : WX} : PTs X [] (vT (kf X) X.mg G W tTrue) := ⟨fun pins s sg H Q I h => pts_nil.run pins s sg H Q I (by
  obtain ⟨B0, H0, B, e, S, k⟩ := h
  exact k B H (.refl S.ext.s))⟩
theorem vts_one {X : Cx} {G : List Md} {W : WX} {a : Expr} {c : List D → R Bool} (h : PT X a (vT (kf X) X.mg G W c)) : PTs X [a] (vT (kf X) X.mg G W c) := pts_one h
theorem compL_ex {t : D → List D → Option (List D)} {c : List D → R Bool} {g : List D → R D} {e : List D} {n : Str} : ∀ {ds : List D}, compL t c g e ds = .ex n → False
  | [], h => by cases h
  | d :: ds, h => by
    unfold compL at h
    cases et : t d e with
    | none => rw [et] at h; cases h
    | some e1 =>
      rw [et, ofO_some, R.bind_ok] at h
      cases ec : c e1 with
      | bad => rw [ec] at h; cases h
      | ex _ => rw [ec] at h; cases h
      | ok b =>
        rw [ec, noX_ok, R.bind_ok] at h
        cases b with
        | false => exact compL_ex h
        | true =>
          rw [if_pos rfl] at h
          cases eg : g e1 with
          | bad => rw [eg] at h; cases h
          | ex _ => rw [eg] at h; cases h
          | ok y =>
            rw [eg, noX_ok, R.bind_ok] at h
            cases er : compL t c g e ds with
            | bad => rw [er] at h; cases h
            | ex _ => exact compL_ex er
            | ok ys => rw [er] at h; cases h
theorem Ext.mutH {B H B' H' : Hp} {L : Addr} {o : HO} (x : Ext B H B' H') (h : H L = none) (hb : B' L = none) : Ext B H B' (upd H' L o) := ⟨x.b, same_updH x.h h, same_updH x.s hb, x.n⟩
section
variable {K : KFr} {mg : Str → Option Value} {G G1 : List Md} {W : WX} {m : Pm} {it : List D → R (List D)} {t : D → List D → Option (List D)} {c : List D → R Bool} {g : List D → R D} {is vs : List Nat}
theorem lc_of (hsub : ∀ i ∈ is, i ∈ vs) (sg : St) (H : Hp) (Q : VK) (h : vE K mg G W .fr (eComp it t c g) sg H Q) :
    tLc (vI K mg G W m it) (vG K m is (wipeG G vs) G1 t) (vT K mg G1 W0 c) (vE K mg G1 W0 .im g) vs sg H Q := by
  obtain ⟨B0, H0, B, e, S, k⟩ := h
  refine ⟨B0, H0, B, e, S, ?_⟩
  unfold eComp at k
  cases ei : it e with
  | bad => rw [ei] at k; exact k.elim
  | ex n => rw [ei] at k; exact k
  | ok ds =>
    rw [ei, R.bind_ok] at k
    intro B1 H1 J x1 w L hL
    obtain ⟨Gd, Y, wk, hgd, hy⟩ := w.ex
    cases ec : compL t c g e ds with
    | bad => rw [ec] at k; exact k.elim
    | ex n => exact (compL_ex ec).elim
    | ok ys =>
      rw [ec, R.bind_ok, fitL_eq] at k
      by_cases hz : ys.length ≤ sizeLine
      · rw [if_pos hz] at k
        have S1 := S.later x1
        have S1w : Sta K (wipeG G vs) B0 H0 (L2.wipe sg vs) e B1 H1 := Sta.wipe S1
        have hLb : B1 L = none := x1.s.free hL
        refine lc_it wk (fun i H' => ∃ B' acc done rest, Ext B1 H1 B' H' ∧ B' L = none ∧ H' L = some (.lst acc) ∧ Reps false K B' acc done ∧ compL t c g e (ds.drop i) = .ok rest ∧ done ++ rest = ys)
          ⟨B1, [], [], ys, .newH x1.s hL, hLb, upd_same, .nil, by rw [List.drop_zero]; exact ec, rfl⟩ (fun i H' _ hh => ?_) (fun i x H' H'' hi hh y => ?_) (fun H' hh => ?_)
        · obtain ⟨B', acc, done, rest, xx, _⟩ := hh
          exact hgd B' H' xx.b ((S1.ext.h).trans xx.h) xx.s
        · obtain ⟨B', acc, done, rest, xx, hbL, hhL, hr, er, ed⟩ := hh
          have hd : ds[i]? = some ds[i] := List.getElem?_eq_getElem hi
          obtain ⟨rfl, rp⟩ := hy i H' x H'' ds[i] B' y hd xx.b (S1.ext.h.trans xx.h) xx.s
          rw [List.drop_eq_getElem_cons hi] at er
          unfold compL at er
          have S2 := S1w.later xx
          refine ⟨B0, H0, B', e, ds[i], S2, rp, ?_⟩
          cases et : t ds[i] e with
          | none => rw [et] at er; cases er
          | some e1 =>
            rw [et, ofO_some, R.bind_ok] at er
            intro sg1 S3 ag
            refine ⟨wipe_ag ag hsub, B0, H0, B', e1, S3, ?_⟩
            cases eb : c e1 with
            | bad => rw [eb] at er; cases er
            | ex _ => rw [eb] at er; cases er
            | ok b =>
              rw [eb, noX_ok, R.bind_ok] at er
              intro B4 H4 x4
              cases b with
              | false =>
                rw [if_neg (by decide)]
                exact ⟨B4, acc, done, rest, xx.trans x4, (x4.n L (by rw [hhL]; exact fun z => by cases z)).trans hbL, x4.h _ _ hhL, hr.mono x4.b, er, ed⟩
              | true =>
                rw [if_pos rfl] at er ⊢
                refine ⟨B0, H0, B4, e1, S3.later x4, ?_⟩
                cases eg : g e1 with
                | bad => rw [eg] at er; cases er
                | ex _ => rw [eg] at er; cases er
                | ok yv =>
                  rw [eg, noX_ok, R.bind_ok] at er
                  cases ers : compL t c g e (ds.drop (i + 1)) with
                  | bad => rw [ers] at er; cases er
                  | ex _ => rw [ers] at er; cases er
                  | ok ys' =>
                    rw [ers] at er
                    cases er
                    intro B5 H5 v x5 rv
                    have h4L : H4 L = some (.lst acc) := x4.h _ _ hhL
                    have b4L : B4 L = none := (x4.n L (by rw [hhL]; exact fun z => by cases z)).trans hbL
                    have b5L : B5 L = none := (x5.n L (by rw [h4L]; exact fun z => by cases z)).trans b4L
                    refine ⟨acc, x5.h _ _ h4L, ?_, B5, acc ++ [v], done ++ [yv], ys', ((xx.trans x4).trans x5).mutH hL b5L, b5L, upd_same, (hr.mono (x4.b.trans x5.b)).append (.cons rv .nil), rfl, ?_⟩
                    · rw [hr.length]
                      rw [← ed, List.length_append, List.length_cons] at hz
                      omega
                    · rw [List.append_assoc]
                      exact ed
        · obtain ⟨B', acc, done, rest, xx, hbL, hhL, hr, er, ed⟩ := hh
          rw [List.drop_length] at er
          cases er
          rw [List.append_nil] at ed
          subst ed
          exact k B' H' _ (x1.trans xx) ⟨L, rfl, x1.h.free hL, hbL, acc, hhL, hr⟩
      · rw [if_neg hz] at k; exact k.elim
theorem fit_lst {r : R (List D)} {d : D} (h : r.bind fitL = .ok d) : ∃ ds, d = .lst ds := by
  cases r with
  | ok ys =>
    have h : fitL ys = .ok d := h
    rw [fitL_eq] at h
    split at h
    · cases h; exact ⟨_, rfl⟩
    · cases h
  | ex c => cases h
  | bad => cases h
theorem eComp_lst {it : List D → R (List D)} {t : D → List D → Option (List D)} {c : List D → R Bool} {g : List D → R D} (e : List D) (d : D) (h : eComp it t c g e = .ok d) : ∃ ds, d = .lst ds := by
  unfold eComp at h
  cases hi : it e with
  | ok ds => rw [hi] at h; exact fit_lst h
  | ex c => rw [hi] at h; cases h
  | bad => rw [hi] at h; cases h
theorem frz_of {f : List D → R D} (hf : ∀ e d, f e = .ok d → ∃ ds, d = .lst ds) (sg : St) (H : Hp) (Q : VK) (h : vE K mg G W .im f sg H Q) : vE K mg G W .fr f sg H Q := by
  obtain ⟨B0, H0, B, e, S, k⟩ := h
  refine ⟨B0, H0, B, e, S, ?_⟩
  cases ef : f e with
  | bad => rw [ef] at k; exact k
  | ex c => rw [ef] at k; exact k
  | ok d =>
    rw [ef] at k
    intro B' H' v x r
    obtain ⟨p, h1, h2, h3, h4⟩ := r
    subst h1
    obtain ⟨ds, rfl⟩ := hf e d ef
    obtain ⟨o, e1, s1, s2, r1⟩ := h4.freeze x.s h3
    refine k (upd B' p o) H' _ ⟨x.b.trans s2, x.h, s1, fun q hq => ?_⟩ r1
    rw [upd_ne (fun z => by subst z; exact hq h2)]
    exact x.n q hq
end
section
variable {X : Cx} {G G1 : List Md} {W : WX} {m m1 m2 : Pm} {it : List D → R (List D)} {itP : List D → R (List (D × D))} {t : D → List D → Option (List D)} {c : List D → R Bool} {g : List D → R D} {is : List Nat} {elt tg iter : Expr} {ifs : List Expr} {scope : Scope} {own : List (Str × Nat)} {pos spos py : Pos} {rm : Rm} {i a b : Nat} {y : Str}
theorem ve_comp (hc : X.calm = true) (hN : X.N.Nodup) (hi : PI X tg iter (vI (kf X) X.mg G W m it)) (ok : BlkOk X.N X.env.scope scope own)
    (hg : ∀ (s : Shared) (H : Hp) (C : Addr) (cl : List (Str × Addr)) (fp : List Addr), PG (X.blk s H scope (compEnvC scope cl C X.env) fp) tg (vG (kf X) m is (wipeG G (own.map (·.2))) G1 t))
    (ht : ∀ (s : Shared) (H : Hp) (C : Addr) (cl : List (Str × Addr)) (fp : List Addr), PTs (X.blk s H scope (compEnvC scope cl C X.env) fp) ifs (vT (kf X) X.mg G1 W0 c))
    (he : ∀ (s : Shared) (H : Hp) (C : Addr) (cl : List (Str × Addr)) (fp : List Addr), PE (X.blk s H scope (compEnvC scope cl C X.env) fp) elt (vE (kf X) X.mg G1 W0 .im g))
    (hsub : ∀ i ∈ is, i ∈ own.map (·.2) := by decide) (hs : ∀ x, foldedSetIterable iter X.env x = pure x := by intro _; rfl) :
    PE X (.ListComp elt [⟨tg, iter, ifs, 0⟩] scope pos) (vE (kf X) X.mg G W .fr (eComp it t c g)) := pe_weak (pe_lc hc hN hi ok hg ht he hs) (lc_of hsub)
theorem vs_compIm (hc : X.calm = true) (hN : X.N.Nodup) (hi : PI X tg iter (vI (kf X) X.mg G W m it)) (ok : BlkOk X.N X.env.scope scope own)
    (hg : ∀ (s : Shared) (H : Hp) (C : Addr) (cl : List (Str × Addr)) (fp : List Addr), PG (X.blk s H scope (compEnvC scope cl C X.env) fp) tg (vG (kf X) m is (wipeG G (own.map (·.2))) G1 t))
    (ht : ∀ (s : Shared) (H : Hp) (C : Addr) (cl : List (Str × Addr)) (fp : List Addr), PTs (X.blk s H scope (compEnvC scope cl C X.env) fp) ifs (vT (kf X) X.mg G1 W0 c))
    (he : ∀ (s : Shared) (H : Hp) (C : Addr) (cl : List (Str × Addr)) (fp : List Addr), PE (X.blk s H scope (compEnvC scope cl C X.env) fp) elt (vE (kf X) X.mg G1 W0 .im g))
    (hy : X.N[i]? = some y := by rfl) (hyl : X.env.scope.names.lookup y = some .local := by rfl) (hsw : swapsWith (.ListComp elt [⟨tg, iter, ifs, 0⟩] scope pos) (some (.Name y py)) spos.line X.env = pure true := by exact sw_true rfl rfl rfl (by decide +kernel))
    (hsub : ∀ i ∈ is, i ∈ own.map (·.2) := by decide) (hs : ∀ x, foldedSetIterable iter X.env x = pure x := by intro _; rfl) :
    PS X (.Assign [.Name y py] (.ListComp elt [⟨tg, iter, ifs, 0⟩] scope pos) spos) (vS (kf X) X.mg G (G.set i .im) W rm (sAsg i (eComp it t c g))) :=
  ps_weak (ps_setLc hc hN hy hyl hsw hi ok hg ht he hs) fun Dn sg H h => lc_of hsub sg H _ (frz_of eComp_lst sg H _ (asg_im Dn sg H h))
end
end L2.VL
set_option Elab.async false
set_option linter.all false
set_option maxRecDepth 100000
set_option maxHeartbeats 4000000
namespace L2.VL
open PySem PySem.Spec PyProof.Rows
def plD : Nat → D → Bool
  | _, .non => true
  | _, .int _ => true
  | _, .str x => PyData.strOk x
  | n + 1, .tup ds => ds.all (plD n)
  | n + 1, .lst ds => ds.all (plD n)
  | _, _ => false
@[simp] theorem plD_int (n : Nat) (i : Int) : plD n (.int i) = true := by cases n <;> rfl
@[simp] theorem plD_non (n : Nat) : plD n .non = true := by cases n <;> rfl
@[simp] theorem plD_str (n : Nat) (x : Str) : plD n (.str x) = PyData.strOk x := by cases n <;> rfl
@[simp] theorem plD_tup (n : Nat) (ds : List D) : plD (n + 1) (.tup ds) = ds.all (plD n) := rfl
@[simp] theorem plD_lst (n : Nat) (ds : List D) : plD (n + 1) (.lst ds) = ds.all (plD n) := rfl
theorem pl_lay : ∀ (n : Nat) (d : D), plD n d = true → d.py.canLay0 = true ∧ d.py.depth ≤ n
  | n, .non, _ => by simp [D.py, PyData.canLay0, PyData.depth]
  | n, .int _, _ => by simp [D.py, PyData.canLay0, PyData.depth]
  | n, .str x, h => by
    rw [plD_str] at h
    simp [D.py, PyData.canLay0, PyData.depth, h]
  | 0, .bl _, h => by cases h
  | n + 1, .bl _, h => by cases h
  | 0, .dic _, h => by cases h
  | n + 1, .dic _, h => by cases h
  | 0, .tdc _, h => by cases h
  | n + 1, .tdc _, h => by cases h
  | 0, .tup _, h => by cases h
  | 0, .lst _, h => by cases h
  | n + 1, .tup ds, h => by
    rw [plD_tup] at h
    have : ∀ ds : List D, ds.all (plD n) = true → PyData.canLayAll0 (D.pys ds) = true ∧ PyData.depthAll (D.pys ds) ≤ n := by
      intro ds
      induction ds with
      | nil => intro _; simp [D.pys, PyData.canLayAll0, PyData.depthAll]
      | cons d ds ih =>
        intro h
        rw [List.all_cons, Bool.and_eq_true] at h
        have h1 := pl_lay n d h.1
        have h2 := ih h.2
        simp only [D.pys, PyData.canLayAll0, PyData.depthAll, h1.1, h2.1, Bool.and_self, true_and]
        omega
    have h2 := this ds h
    simp only [D.py, PyData.canLay0, PyData.depth, h2.1, true_and]
    omega
  | n + 1, .lst ds, h => by
    rw [plD_lst] at h
    have : ∀ ds : List D, ds.all (plD n) = true → PyData.canLayAll0 (D.pys ds) = true ∧ PyData.depthAll (D.pys ds) ≤ n := by
      intro ds
      induction ds with
      | nil => intro _; simp [D.pys, PyData.canLayAll0, PyData.depthAll]
      | cons d ds ih =>
        intro h
        rw [List.all_cons, Bool.and_eq_true] at h
        have h1 := pl_lay n d h.1
        have h2 := ih h.2
        simp only [D.pys, PyData.canLayAll0, PyData.depthAll, h1.1, h2.1, Bool.and_self, true_and]
        omega
    have h2 := this ds h
    simp only [D.py, PyData.canLay0, PyData.depth, h2.1, true_and]
    omega
theorem pl_eqs (n : Nat) (ih : ∀ a b : D, plD n a = true → plD n b = true → (PyData.eqv a.py b.py = true ↔ a = b)) :
    ∀ as bs : List D, as.all (plD n) = true → bs.all (plD n) = true → (PyData.eqvAll (D.pys as) (D.pys bs) = true ↔ as = bs)
  | [], [], _, _ => by simp [D.pys, PyData.eqvAll]
  | [], _ :: _, _, _ => by simp [D.pys, PyData.eqvAll]
  | _ :: _, [], _, _ => by simp [D.pys, PyData.eqvAll]
  | a :: as, b :: bs, h1, h2 => by
    rw [List.all_cons, Bool.and_eq_true] at h1 h2
    simp only [D.pys, PyData.eqvAll, Bool.and_eq_true, List.cons.injEq]
    rw [ih a b h1.1 h2.1, pl_eqs n ih as bs h1.2 h2.2]
theorem pl_eq : ∀ (n : Nat) (a b : D), plD n a = true → plD n b = true → (PyData.eqv a.py b.py = true ↔ a = b) := by
  intro n
  induction n with
  | zero =>
    intro a b h1 h2
    cases a <;> cases b <;> first | (cases h1; done) | (cases h2; done) | simp [D.py, PyData.eqv]
  | succ n ih =>
    intro a b h1 h2
    cases a <;> cases b <;> first | (cases h1; done) | (cases h2; done) | simp [D.py, PyData.eqv] | skip
    · exact pl_eqs n ih _ _ h1 h2
    · exact pl_eqs n ih _ _ h1 h2
theorem eqF_py {a b : D} (h : scalD a b = true) : eqF a b = PyData.eqv a.py b.py := by
  cases a <;> cases b <;> first | (cases h; done) | simp [D.py, PyData.eqv, eqF] | skip
  all_goals (rw [Bool.eq_iff_iff]; simp)
theorem eqD_py {a b : D} {n m : Nat} (ha : plD n a = true) (hb : plD m b = true) (hn : n ≤ 64 := by decide) (hm : m ≤ 64 := by decide) : eqD a b = some (PyData.eqv a.py b.py) := by
  unfold eqD
  split
  · rename_i h
    rw [eqF_py h]
  · have h1 := pl_lay n a ha
    have h2 := pl_lay m b hb
    have s1 : SeqAt.shaped a.py = true := by
      unfold SeqAt.shaped
      rw [h1.1, decide_eq_true (Nat.le_trans h1.2 hn)]
      rfl
    have s2 : SeqAt.shaped b.py = true := by
      unfold SeqAt.shaped
      rw [h2.1, decide_eq_true (Nat.le_trans h2.2 hm)]
      rfl
    rw [s1, s2]
    rfl
end L2.VL
set_option Elab.async false
set_option linter.all false
set_option maxRecDepth 100000
set_option maxHeartbeats 4000000
namespace L2.VL
open PySem PySem.Spec PyProof.Rows
section
variable {X : Cx} {G : List Md} {W : WX} {pos p tpos : Pos} {a b c tg : Expr} {fa fb fc f : List D → R D} {ma mb mc : Tg} {r r' : R2} {g g' : D → D → Option D} {m m1 m2 : Pm} {elts : List Expr} {kk : Nat}
@[simp] def iRevL (f : List D → R D) (e : List D) : R (List D) := ((f e).bind lstOf).bind fun ds => .ok ds.reverse
theorem rev_get {α : Type} {xs : List α} {i : Nat} {x : α} (h : xs.reverse[i]? = some x) : xs[xs.length - 1 - i]? = some x := by
  have hi : i < xs.reverse.length := (List.getElem?_eq_some_iff.mp h).1
  rw [List.getElem?_reverse (by simpa using hi)] at h
  exact h
theorem bind_bind {α β γ : Type} (r : R α) (f : α → R β) (g : β → R γ) : (r.bind f).bind g = r.bind fun x => (f x).bind g := by cases r <;> rfl
theorem vi_revL (hm : X.mg "reversed" = none) (h : PE X a (vE (kf X) X.mg G W (pmT m) f)) (hg : Gl X "reversed" := by rfl) (hs : starEach [a] X.env = (false, eval a X.env) :: starEach [] X.env := by rfl) :
    PI X tg (.Call (.Name "reversed" p) [a] [] pos) (vI (kf X) X.mg G W m (iRevL f)) := by
  refine pi_weak (RT.pi_revA hg hm h hs) fun sg H Rr ⟨B0, H0, B, e, S, k⟩ => ?_
  unfold iRevL at k
  rw [bind_bind] at k
  refine seqI S k fun B1 H1 x d x1 S1 r1 k1 => ?_
  cases d with
  | lst ds =>
    obtain ⟨p, vs, rfl, hl, hst, hit⟩ := r1.stay
    refine ⟨p, vs, rfl, .inl ⟨hst B1 H1 (Same.refl _) S1.ext.h x1.s, k1 B1 H1 _ x1 ⟨fun H => SqL (kf X) H p vs, fun i H x H' => H' = H ∧ vs[vs.length - 1 - i]? = some x, ?_, fun B2 H2 sb s0 sh => hst B2 H2 sb s0 sh, fun i H2 y H3 d B2 hy hd sb s0 sh => ?_⟩⟩⟩
    · rw [List.length_reverse, ← hl]
      exact walk_rev (xs := vs)
    · have hd' := rev_get hd
      rw [← hl] at hd'
      obtain ⟨z, hz, q⟩ := hit _ d B2 hd' sb
      obtain ⟨e1, e2⟩ := hy
      rw [hz] at e2
      cases e2
      exact ⟨e1, q⟩
  | _ => exact k1.elim
def inR2 (i : Int) : Prop := -(2 ^ 62) ≤ i ∧ i < 2 ^ 62
instance (i : Int) : Decidable (inR2 i) := inferInstanceAs (Decidable (_ ∧ _))
def rev1 : D → R (List D)
  | .int j => if inR2 j then .ok (rngOf 0 j).reverse else .bad
  | _ => .bad
@[simp] theorem rev1_int (j : Int) : rev1 (.int j) = if inR2 j then .ok (rngOf 0 j).reverse else .bad := rfl
theorem walk_zipT {K : PySem.W.Frag} {a b : Addr} {xs ys : List V} {n : Nat} (hn : n = min xs.length ys.length) : Walk (RZ.ItzT K a b) n (fun H => SqT K H a xs ∧ SqT K H b ys) (YPair (fun i => xs[i]?) (fun i => ys[i]?)) := by
  subst hn
  refine ⟨fun i _ hi q => ?_, fun _ q => ⟨xs, ys, q.1, q.2, by omega⟩, fun i H v H' _ q y => ?_⟩
  · have h1 : i < xs.length := by omega
    have h2 : i < ys.length := by omega
    exact ⟨xs, ys, xs[i], ys[i], q.1, q.2, by simp [h1], by simp [h2]⟩
  · obtain ⟨T, x, z, h1, h2, h3, h4, h5⟩ := y
    exact ⟨T, x, z, h1, h2, h3, h4 xs q.1, h5 ys q.2⟩
theorem vi_zipT (hm : X.mg "zip" = none) (ha : PE X a (vE (kf X) X.mg G W (pmT m1) fa)) (hb : PE X b (vE (kf X) X.mg G W (pmT m2) fb)) (hg : Gl X "zip" := by rfl)
    (hs : starEach [a, b] X.env = (false, eval a X.env) :: starEach [b] X.env := by rfl) (hs2 : starEach [b] X.env = [(false, eval b X.env)] := by rfl) :
    PI X (.Tuple elts kk tpos) (.Call (.Name "zip" p) [a, b] [] pos) (vI2 (kf X) X.mg G W m1 m2 (iZipT fa fb)) := by
  refine pi_weak (RZ.pi_zipA hg hm (pa_cons ha (pa_cons hb pa_nil hs2) hs) hs (by rw [hs2]; rfl)) fun sg H Rr ⟨B0, H0, B, e, S, k⟩ => ?_
  refine seqI S k fun B1 H1 x d x1 S1 r1 k1 => ?_
  refine seq1 (P := KI X.mg W sg B H (WalkP (kf X) m1 m2 H0) Rr) S1 k1 (fun c k B' H' a y hm => k B' H' a (x1.trans y) hm) (fun k => k) fun B2 H2 x' d' x2 S2 r2 k2 => ?_
  cases d with
  | tup ds =>
    cases d' with
    | tup es =>
      obtain ⟨q, vs, rfl, hl, hst, hit⟩ := (r1.later x2).stayT
      obtain ⟨q', vs', rfl, hl', hst', hit'⟩ := (r2.earlier x1.h).stayT
      refine ⟨q, q', vs, vs', rfl, .inr ⟨hst B2 H2 (Same.refl _) S2.ext.h x2.s, hst' B2 H2 (Same.refl _) S2.ext.h x2.s, k2 B2 H2 _ (x1.trans x2) ⟨fun H => SqT (kf X) H q vs ∧ SqT (kf X) H q' vs', YPair (fun i => vs[i]?) (fun i => vs'[i]?), ?_, fun B3 H3 sb s0 sh => ⟨hst B3 H3 sb s0 sh, hst' B3 H3 sb s0 sh⟩, fun i H3 y H4 d1 d2 B3 hy hd sb s0 sh => ?_⟩⟩⟩
      · exact walk_zipT (xs := vs) (ys := vs') (by rw [List.length_zip, hl, hl'])
      · obtain ⟨e1, e2⟩ := zip_get hd
        obtain ⟨T, y1, y2, h1, h2, h3, h4, h5⟩ := hy
        obtain ⟨z, hz, rz⟩ := hit i d1 B3 e1 sb
        obtain ⟨z', hz', rz'⟩ := hit' i d2 B3 e2 sb
        have h4 : vs[i]? = some y1 := h4
        have h5 : vs'[i]? = some y2 := h5
        rw [hz] at h4
        rw [hz'] at h5
        cases h4
        cases h5
        exact ⟨T, _, _, h1, h2, h3, rz, rz'⟩
    | _ => exact k2.elim
  | _ => exact k2.elim
end
end L2.VL
set_option Elab.async false
set_option linter.all false
set_option maxRecDepth 100000
set_option maxHeartbeats 4000000
namespace L2.VL
open PySem PySem.Spec PyProof.Rows
theorem cutL_upto {α : Type} (xs : List α) (k : Nat) : cutL xs none (some (k : Int)) = xs.take k := by
  unfold cutL
  rw [HT.sIx_nat, HT.sIx_none, List.drop_zero, Nat.sub_zero]
  by_cases h : k ≤ xs.length
  · rw [Nat.min_eq_left h]
  · rw [Nat.min_eq_right (by omega), List.take_of_length_le (Nat.le_refl _), List.take_of_length_le (by omega)]
end L2.VL
set_option Elab.async false
set_option linter.all false
set_option maxRecDepth 100000
set_option maxHeartbeats 4000000
namespace L2.VL
open PySem PySem.Spec PyProof.Rows
def asS : D → R Str
  | .str x => .ok x
  | _ => .bad
@[simp] theorem asS_str (x : Str) : asS (.str x) = .ok x := rfl
def asStrs : List D → Option (List Str)
  | [] => some []
  | .str x :: ds => (asStrs ds).map (x :: ·)
  | _ :: _ => none
@[simp] theorem asStrs_nil : asStrs [] = some [] := rfl
@[simp] theorem asStrs_cons (x : Str) (ds : List D) : asStrs (.str x :: ds) = (asStrs ds).map (x :: ·) := rfl
theorem asStrs_map : ∀ ys : List Str, asStrs (ys.map D.str) = some ys
  | [] => rfl
  | y :: ys => by
    show (asStrs (ys.map D.str)).map (y :: ·) = _
    rw [asStrs_map ys]
    rfl
theorem asStrs_eq : ∀ {ds : List D} {ys : List Str}, asStrs ds = some ys → ds = ys.map D.str := by
  intro ds
  induction ds with
  | nil => intro ys h; cases h; rfl
  | cons d ds ih =>
    intro ys h
    cases d with
    | str x =>
      have h : (asStrs ds).map (x :: ·) = some ys := h
      cases e : asStrs ds with
      | none => rw [e] at h; cases h
      | some zs =>
        rw [e] at h
        cases h
        rw [ih e]
        rfl
    | _ => cases h
theorem reps_strs_of {c : Bool} {K : KFr} {H : Hp} : ∀ {vs : List V} {ys : List Str}, Reps c K H vs (ys.map D.str) → vs = ys.map V.str
  | _, [], .nil => rfl
  | _, _ :: _, .cons h r => by
    cases h
    rw [reps_strs_of r]
    rfl
@[simp] def eM1 (g : Str → D → Option D) (fo fe : List D → R D) (e : List D) : R D := (fo e).bind fun x => (asS x).bind fun a => (fe e).bind fun y => ofO (g a y)
def DoesS (K : KFr) (r : V → List V → Hp → VK → Prop) (g : Str → D → Option D) : Prop := ∀ (H : Hp) (a : Str) (y : V) (dy d : D) (Q : VK), Rep true K H y dy → g a dy = some d → (∀ v, (∀ B, Rep false K B v d) → Q v H) → r (.str a) [y] H Q
section
variable {X : Cx} {G : List Md} {W : WX} {pos apos : Pos} {o a : Expr} {fo fe : List D → R D} {mo me : Tg} {r : V → List V → Hp → VK → Prop} {g : Str → D → Option D} {g0 : Str → Option D} {name : Str} {id : String}
theorem ve_m1 (slot : PySem.Slot "str" name id) (ty : typeOf (.builtin id) = pure (.type "method_descriptor")) (rule : MtR X id r) (hd : DoesS (kf X) r g) (ho : PE X o (vE (kf X) X.mg G W mo fo)) (he : PE X a (vE (kf X) X.mg G W me fe))
    (hs : starEach [a] X.env = [(false, eval a X.env)] := by rfl) (hbase : attributeBase o name X.env (eval o X.env) = eval o X.env := by rfl) (hline : (apos.endLine == pos.line) = true := by rfl) :
    PE X (.Call (.Attribute o name apos) [a] [] pos) (vE (kf X) X.mg G W .im (eM1 g fo fe)) := by
  refine pe_weak (pe_m1 slot ty rule ho he hs hbase hline) fun sg H Q ⟨B0, H0, B, e, S, k⟩ => ?_
  refine seq1 (P := KE (kf X) X.mg W sg H0 B H Q .im) S k (fun c k => k) (fun k => k) fun B1 H1 x d1 x1 S1 r1 k1 => ?_
  have q1 := r1.all x1.s S1.ext.h
  cases q1 with
  | str z =>
    refine ⟨⟨z, rfl⟩, ?_⟩
    refine seq1 (P := KE (kf X) X.mg W sg H0 B H Q .im) S1 k1 (fun c k B' H' a y hm => k B' H' a (x1.trans y) hm) (fun k => k) fun B2 H2 y d2 x2 S2 r2 k2 => ?_
    cases eg : g z d2 with
    | none => rw [eg] at k2; exact k2.elim
    | some d =>
      rw [eg] at k2
      exact hd H2 z y d2 d Q ((r2.earlier x1.h).all x2.s S2.ext.h) eg fun v hv => k2 B2 H2 v (x1.trans x2) (hv B2)
  | _ => exact k1.elim
def gJoin (a : Str) : D → Option D
  | .lst ds => (asStrs ds).bind fun ys => if (ys.map (·.length)).sum + ys.length * a.length ≤ 16777216 then some (.str (Txt.join a ys)) else none
  | .tup ds => (asStrs ds).bind fun ys => if (ys.map (·.length)).sum + ys.length * a.length ≤ 16777216 then some (.str (Txt.join a ys)) else none
  | _ => none
@[simp] theorem gJoin_lst (a : Str) (ds : List D) : gJoin a (.lst ds) = (asStrs ds).bind fun ys => if (ys.map (·.length)).sum + ys.length * a.length ≤ 16777216 then some (.str (Txt.join a ys)) else none := rfl
@[simp] theorem gJoin_tup (a : Str) (ds : List D) : gJoin a (.tup ds) = (asStrs ds).bind fun ys => if (ys.map (·.length)).sum + ys.length * a.length ≤ 16777216 then some (.str (Txt.join a ys)) else none := rfl
def rJoinS (K : KFr) : V → List V → Hp → VK → Prop := fun x xs H Q => ∃ a p, ∃ ys : List Str, x = .str a ∧ xs = [.ref p] ∧ (SqL K H p (ys.map V.str) ∨ SqT K H p (ys.map V.str)) ∧
      (ys.map (·.length)).sum + ys.length * a.length ≤ 16777216 ∧ Q (.str (Txt.join a ys)) H
theorem d_join {K : KFr} : DoesS K (rJoinS K) gJoin := by
  intro H a y dy d Q r e q
  cases dy with
  | lst ds =>
    rw [gJoin_lst] at e
    cases es : asStrs ds with
    | none => rw [es] at e; cases e
    | some ys =>
      rw [es] at e
      have e : (if (ys.map (·.length)).sum + ys.length * a.length ≤ 16777216 then some (D.str (Txt.join a ys)) else none) = some d := e
      have ed := asStrs_eq es
      subst ed
      split at e
      · rename_i hz
        cases e
        cases r with
        | lst h rs =>
          have := reps_strs_of rs
          subst this
          exact ⟨a, _, ys, rfl, rfl, .inl (.inl h), hz, q _ fun _ => .str _⟩
        | kls _ h rs =>
          have := reps_strs_of rs
          subst this
          exact ⟨a, _, ys, rfl, rfl, .inl h, hz, q _ fun _ => .str _⟩
      · cases e
  | tup ds =>
    rw [gJoin_tup] at e
    cases es : asStrs ds with
    | none => rw [es] at e; cases e
    | some ys =>
      rw [es] at e
      have e : (if (ys.map (·.length)).sum + ys.length * a.length ≤ 16777216 then some (D.str (Txt.join a ys)) else none) = some d := e
      have ed := asStrs_eq es
      subst ed
      split at e
      · rename_i hz
        cases e
        cases r with
        | tup h rs =>
          have := reps_strs_of rs
          subst this
          exact ⟨a, _, ys, rfl, rfl, .inr (.inl h.rd), hz, q _ fun _ => .str _⟩
      · cases e
  | _ => cases e
theorem ve_join (ho : PE X o (vE (kf X) X.mg G W mo fo)) (he : PE X a (vE (kf X) X.mg G W me fe)) (hs : starEach [a] X.env = [(false, eval a X.env)] := by rfl) (hbase : attributeBase o "join" X.env (eval o X.env) = eval o X.env := by rfl) (hline : (apos.endLine == pos.line) = true := by rfl) :
    PE X (.Call (.Attribute o "join" apos) [a] [] pos) (vE (kf X) X.mg G W .im (eM1 gJoin fo fe)) := ve_m1 F.slot_str_join F.type_str_join mt_join d_join ho he hs hbase hline
def splD (a : Str) : D → R D
  | .str b => if (b.length == 0) = false ∧ a.length + 2 ≤ sizeLine then .ok (.lst ((Txt.split a b).map .str)) else .bad
  | _ => .bad
@[simp] theorem splD_str (a b : Str) : splD a (.str b) = if (b.length == 0) = false ∧ a.length + 2 ≤ sizeLine then .ok (.lst ((Txt.split a b).map .str)) else .bad := rfl
end
end L2.VL
set_option Elab.async false
set_option linter.all false
set_option maxRecDepth 100000
set_option maxHeartbeats 4000000
namespace L2.VL
open PySem PySem.Spec PyProof.Rows
def kinB (c y : Str) : Bool := decide (c = y) || decide (y = ("OddsError" : Str))
theorem kit_val {K : PySem.W.Frag} {C : Addr} (hs : PySem.W.subIn K (.ref C) (.type "ValueError") = some true) : PySem.W.kitOne K (.ref C) (.type "ValueError") = some true := by
  unfold PySem.W.kitOne
  rw [if_neg (fun h => by have := LawfulBEq.eq_of_beq h; cases this)]
  unfold PySem.W.kitCls
  have hm : PySem.W.kitMeta "ValueError" = true := by decide +kernel
  simp only [hm]
  exact hs
theorem exm_own {K : PySem.W.Frag} {C O : Addr} (he : PySem.W.subIn K (.ref O) (.type "BaseException") = some true) (hi : PySem.W.isClsIn K O = true) (ht : PySem.W.typeIn K (.ref O) = some (.type "type")) (hs : PySem.W.subIn K (.ref C) (.ref O) = some true) :
    PySem.W.exmOne K (.ref C) (.ref O) = some true := by
  unfold PySem.W.exmOne
  rw [if_pos (by rw [he]; decide)]
  unfold PySem.W.kitCls
  have hc : (PySem.W.clsIn K O).isSome = true := hi
  simp only [hc, ht]
  exact hs
structure ExT (K : PySem.W.Frag) (mg : Str → Option Value) (ys : List Str) (c : Str) (C : Addr) : Prop where
  ec : ExcC K C
  kin : ∀ y ∈ ys, ∀ Y, mg y = some (.ref Y) → PySem.W.kitOne K (.ref C) (.ref Y) = some (kinB c y)
  val : PySem.W.kitOne K (.ref C) (.type "ValueError") = some true
  odd : ∀ O, mg "OddsError" = some (.ref O) → PySem.W.exmOne K (.ref C) (.ref O) = some true
def kinD (y : Str) : D → R D
  | .str c => .ok (.bl (kinB c y))
  | _ => .bad
@[simp] theorem kinD_str (y c : Str) : kinD y (.str c) = .ok (.bl (kinB c y)) := rfl
def kinT (zs : List Str) : D → R D
  | .str c => .ok (.bl (zs.any fun y => kinB c y))
  | _ => .bad
@[simp] theorem kinT_str (zs : List Str) (c : Str) : kinT zs (.str c) = .ok (.bl (zs.any fun y => kinB c y)) := rfl
def kinV : D → R D
  | .str _ => .ok (.bl true)
  | _ => .bad
@[simp] theorem kinV_str (c : Str) : kinV (.str c) = .ok (.bl true) := rfl
end L2.VL
set_option Elab.async false
set_option linter.all false
set_option maxRecDepth 100000
set_option maxHeartbeats 4000000
namespace L2.VL
open PySem PySem.Spec PyProof.Rows L2H
end L2.VL
set_option Elab.async false
set_option linter.all false
set_option maxRecDepth 100000
set_option maxHeartbeats 4000000
namespace L2.VL
open PySem PySem.Spec PyProof.Rows
def suite (cs : List Str) (i : Nat) (gs : List D → R Fl) (e : List D) (c : Str) : R Fl := if c ∈ cs then noX (gs (e.set i (.str c))) else .bad
def tryR (h : Str → R Fl) : R Fl → R Fl
  | .ex c => h c
  | r => r
@[simp] theorem tryR_ok (h : Str → R Fl) (fl : Fl) : tryR h (.ok fl) = .ok fl := rfl
@[simp] theorem tryR_ex (h : Str → R Fl) (c : Str) : tryR h (.ex c) = h c := rfl
@[simp] theorem tryR_bad (h : Str → R Fl) : tryR h .bad = .bad := rfl
@[simp] theorem suite_eq (cs : List Str) (i : Nat) (gs : List D → R Fl) (e : List D) (c : Str) : suite cs i gs e c = if c ∈ cs then noX (gs (e.set i (.str c))) else .bad := rfl
end L2.VL
set_option Elab.async false
set_option linter.all false
set_option maxRecDepth 100000
set_option maxHeartbeats 4000000
namespace L2.VL
open PySem PySem.Spec PyProof.Rows
def R.map {α β : Type} (f : α → β) : R α → R β
  | .ok a => .ok (f a)
  | .ex c => .ex c
  | .bad => .bad
@[simp] theorem R.map_ok {α β : Type} (f : α → β) (a : α) : (R.ok a).map f = .ok (f a) := rfl
@[simp] theorem R.map_ex {α β : Type} (f : α → β) (c : Str) : (R.ex c : R α).map f = .ex c := rfl
@[simp] theorem R.map_bad {α β : Type} (f : α → β) : (R.bad : R α).map f = .bad := rfl
theorem R.bind_assoc {α β γ : Type} (r : R α) (f : α → R β) (g : β → R γ) : (r.bind f).bind g = r.bind fun x => (f x).bind g := by cases r <;> rfl
def Ref {α : Type} (a b : R α) : Prop := b = .bad ∨ a = b
theorem Ref.of {α : Type} {a b : R α} (h : a = b) : Ref a b := .inr h
theorem Ref.ok {α : Type} {a : R α} {x : α} (h : Ref a (.ok x)) : a = .ok x := h.elim (fun z => nomatch z) id
theorem Ref.ex {α : Type} {a : R α} {x : Str} (h : Ref a (.ex x)) : a = .ex x := h.elim (fun z => nomatch z) id
section
variable {α β γ δ : Type}
theorem Ref.bind {a : R α} {b : R β} {f : β → α} (h : Ref a (b.map f)) {k : α → R γ} {k' : β → R δ} {g : δ → γ} (hk : ∀ x, Ref (k (f x)) ((k' x).map g)) : Ref (a.bind k) ((b.bind k').map g) := by
  cases b with
  | bad => exact .inl rfl
  | ex c => rw [h.ex]; exact .inr rfl
  | ok x => rw [h.ok]; exact hk x
theorem Ref.bind1 {a b : R α} (h : Ref a b) {k k' : α → R γ} (hk : ∀ x, Ref (k x) (k' x)) : Ref (a.bind k) (b.bind k') := by
  cases b with
  | bad => exact .inl rfl
  | ex c => rw [h.ex]; exact .inr rfl
  | ok x => rw [h.ok]; exact hk x
end
abbrev Pat := List (Option D)
def EM : Pat → List D → Prop
  | [], [] => True
  | some d :: p, x :: e => x = d ∧ EM p e
  | none :: p, _ :: e => EM p e
  | _, _ => False
def PLe : Pat → Pat → Prop
  | [], [] => True
  | some d :: q, some d' :: p => d = d' ∧ PLe q p
  | none :: q, _ :: p => PLe q p
  | _, _ => False
theorem EM.get : ∀ {p : Pat} {e : List D} {i : Nat} {d : D}, EM p e → p[i]? = some (some d) → e[i]? = some d
  | [], [], _, _, _, h => by simp at h
  | some _ :: _, x :: _, 0, _, h, g => by
    have : some _ = some (some _) := g
    cases this
    exact congrArg some h.1
  | some _ :: _, _ :: _, i + 1, _, h, g => EM.get (i := i) h.2 (by simpa using g)
  | none :: _, _ :: _, 0, _, h, g => by cases g
  | none :: p, _ :: e, i + 1, _, h, g => EM.get (p := p) (e := e) (i := i) h (by simpa using g)
theorem EM.set {d : D} : ∀ {p : Pat} {e : List D} (i : Nat), EM p e → EM (p.set i (some d)) (e.set i d)
  | [], [], _, h => h
  | some _ :: _, _ :: _, 0, h => ⟨rfl, h.2⟩
  | none :: _, _ :: _, 0, h => ⟨rfl, h⟩
  | some _ :: _, _ :: _, i + 1, h => ⟨h.1, EM.set i h.2⟩
  | none :: p, _ :: e, i + 1, h => EM.set (p := p) (e := e) i h
theorem EM.le : ∀ {q p : Pat} {e : List D}, PLe q p → EM p e → EM q e
  | [], [], [], _, _ => trivial
  | some _ :: _, some _ :: _, _ :: _, h, g => ⟨g.1.trans h.1.symm, EM.le h.2 g.2⟩
  | none :: q, some _ :: p, _ :: e, h, g => EM.le (q := q) (p := p) (e := e) h g.2
  | none :: q, none :: p, _ :: e, h, g => EM.le (q := q) (p := p) (e := e) h g
abbrev eU (_ : Unit) : D := .non
abbrev eA (d : D) : D := d
abbrev eL {α : Type} (f : α → D) (l : List α) : D := .lst (l.map f)
abbrev eT {α : Type} (f : α → D) (l : List α) : D := .tup (l.map f)
abbrev e2 {α β : Type} (f : α → D) (g : β → D) (p : α × β) : D := .tup [f p.1, g p.2]
abbrev e3 {α β γ : Type} (f : α → D) (g : β → D) (h : γ → D) (p : α × β × γ) : D := .tup [f p.1, g p.2.1, h p.2.2]
abbrev e4 {α β γ δ : Type} (f : α → D) (g : β → D) (h : γ → D) (k : δ → D) (p : α × β × γ × δ) : D := .tup [f p.1, g p.2.1, h p.2.2.1, k p.2.2.2]
abbrev e5 {α β γ δ ε : Type} (f : α → D) (g : β → D) (h : γ → D) (k : δ → D) (l : ε → D) (p : α × β × γ × δ × ε) : D := .tup [f p.1, g p.2.1, h p.2.2.1, k p.2.2.2.1, l p.2.2.2.2]
abbrev h2 {α β : Type} (f : α → D) (g : β → D) (p : α × β) : D := .lst [f p.1, g p.2]
abbrev h3 {α β γ : Type} (f : α → D) (g : β → D) (h : γ → D) (p : α × β × γ) : D := .lst [f p.1, g p.2.1, h p.2.2]
abbrev h4 {α β γ δ : Type} (f : α → D) (g : β → D) (h : γ → D) (k : δ → D) (p : α × β × γ × δ) : D := .lst [f p.1, g p.2.1, h p.2.2.1, k p.2.2.2]
def eO {α : Type} (f : α → D) : Option α → D
  | none => .non
  | some x => f x
@[simp] theorem eO_none {α : Type} (f : α → D) : eO f none = .non := rfl
@[simp] theorem eO_some {α : Type} (f : α → D) (x : α) : eO f (some x) = f x := rfl
abbrev eDS {α : Type} (f : α → D) (l : List (Str × α)) : D := .dic (l.map fun p => (.inr p.1, f p.2))
def SP (p : Pat) (m : List D → R D) (d : D) : Prop := ∀ e, EM p e → m e = .ok d
def SE {α : Type} (p : Pat) (m : List D → R D) (r : R α) (enc : α → D) : Prop := ∀ e, EM p e → Ref (m e) (r.map enc)
def SCp (p : Pat) (c : List D → R Bool) (b : Bool) : Prop := ∀ e, EM p e → c e = .ok b
def SC (p : Pat) (c : List D → R Bool) (r : R Bool) : Prop := ∀ e, EM p e → Ref (c e) r
def SAp (p : Pat) (fs : List D → R (List D)) (ds : List D) : Prop := ∀ e, EM p e → fs e = .ok ds
def SA {τ : Type} (p : Pat) (fs : List D → R (List D)) (r : R τ) (enc : τ → List D) : Prop := ∀ e, EM p e → Ref (fs e) (r.map enc)
def SI {α : Type} (p : Pat) (it : List D → R (List D)) (r : R (List α)) (enc : α → D) : Prop := ∀ e, EM p e → Ref (it e) (r.map (·.map enc))
def SI2 {α β : Type} (p : Pat) (it : List D → R (List (D × D))) (r : R (List (α × β))) (f : α → D) (g : β → D) : Prop := ∀ e, EM p e → Ref (it e) (r.map (·.map fun x => (f x.1, g x.2)))
def SO (p : Pat) (f : List D → R (Option Int)) (r : R (Option Int)) : Prop := ∀ e, EM p e → Ref (f e) r
inductive TF (σ ρ : Type) where
  | nx (s : σ) | rt (r : ρ)
def SN {σ : Type} (p : Pat) (g : List D → R Fl) (s : R σ) (P : σ → Pat) : Prop :=
  ∀ e, EM p e → s = .bad ∨ (∃ c, s = .ex c ∧ g e = .ex c) ∨ ∃ y e', s = .ok y ∧ g e = .ok (.nx e') ∧ EM (P y) e'
def SX {ρ : Type} (p : Pat) (g : List D → R Fl) (r : R ρ) (enc : ρ → D) : Prop := ∀ e, EM p e → Ref (g e) (r.map fun x => Fl.rt (enc x))
def SB {σ ρ : Type} (p : Pat) (g : List D → R Fl) (r : R (TF σ ρ)) (P : σ → Pat) (enc : ρ → D) : Prop :=
  ∀ e, EM p e → r = .bad ∨ (∃ c, r = .ex c ∧ g e = .ex c) ∨ (∃ y e', r = .ok (.nx y) ∧ g e = .ok (.nx e') ∧ EM (P y) e') ∨ ∃ d, r = .ok (.rt d) ∧ g e = .ok (.rt (enc d))
section
variable {p : Pat} {α β γ δ τ σ σ' ρ : Type} {ea : α → D} {eb : β → D} {ec : γ → D}
theorem SP.se {m : List D → R D} {x : α} (h : SP p m (ea x)) : SE p m (.ok x) ea := fun e he => .inr (h e he)
theorem SCp.sc {c : List D → R Bool} {b : Bool} (h : SCp p c b) : SC p c (.ok b) := fun e he => .inr (h e he)
theorem SE.co {m : List D → R D} {r : R α} (h : SE p m r ea) (f : α → β) (hf : ∀ x, eb (f x) = ea x) : SE p m (r.bind fun x => .ok (f x)) eb := fun e he => by
  have := h e he
  cases r with
  | bad => exact .inl rfl
  | ex c => exact this
  | ok x => exact .inr ((this.ok).trans (by rw [← hf]; rfl))
theorem sp_var {i : Nat} {d : D} (h : p[i]? = some (some d) := by rfl) : SP p (eVar i) d := fun e he => by
  show ofO e[i]? = .ok d
  rw [he.get h]
  rfl
theorem sp_c {d : D} : SP p (eC d) d := fun _ _ => rfl
theorem sp_flat {f : List D → R D} {d : D} (h : SP p f d) (hd : flatD d = true := by rfl) : SP p (eFlat f) d := fun e he => by
  show (f e).bind _ = _
  rw [h e he]
  exact if_pos hd
theorem se_flat {f : List D → R D} {r : R α} (h : SE p f r ea) (hd : ∀ x, flatD (ea x) = true := by intro _; rfl) : SE p (eFlat f) r ea := fun e he => by
  have := h e he
  show Ref ((f e).bind _) _
  cases r with
  | bad => exact .inl rfl
  | ex c => rw [this.ex]; exact .inr rfl
  | ok x => rw [this.ok]; exact .inr (if_pos (hd x))
theorem se_1 {f : List D → R D} {k : D → R D} {ra : R α} {h : α → R γ} (hk : ∀ x, Ref (k (ea x)) ((h x).map ec)) (ha : SE p f ra ea) : SE p (fun e => (f e).bind k) (ra.bind h) ec := fun e he => (ha e he).bind hk
theorem se_1p {f : List D → R D} {k : D → R D} {d : D} {h : R γ} (hk : Ref (k d) (h.map ec)) (ha : SP p f d) : SE p (fun e => (f e).bind k) h ec := fun e he => by
  show Ref ((f e).bind k) _
  rw [ha e he]
  exact hk
theorem sp_1 {f : List D → R D} {k : D → R D} {d d' : D} (hk : k d = .ok d') (ha : SP p f d) : SP p (fun e => (f e).bind k) d' := fun e he => by
  show (f e).bind k = _
  rw [ha e he]
  exact hk
theorem se_2 {f g : List D → R D} {k : D → D → R D} {ra : R α} {rb : R β} {h : α → β → R γ} (hk : ∀ x y, Ref (k (ea x) (eb y)) ((h x y).map ec)) (ha : SE p f ra ea) (hb : SE p g rb eb) :
    SE p (fun e => (f e).bind fun x => (g e).bind fun y => k x y) (ra.bind fun x => rb.bind fun y => h x y) ec := fun e he => (ha e he).bind fun x => (hb e he).bind fun y => hk x y
theorem se_2p {f g : List D → R D} {k : D → D → R D} {d1 d2 : D} {h : R γ} (hk : Ref (k d1 d2) (h.map ec)) (ha : SP p f d1) (hb : SP p g d2) :
    SE p (fun e => (f e).bind fun x => (g e).bind fun y => k x y) h ec := fun e he => by
  show Ref ((f e).bind _) _
  rw [ha e he]
  show Ref ((g e).bind _) _
  rw [hb e he]
  exact hk
theorem sp_2 {f g : List D → R D} {k : D → D → R D} {d1 d2 d : D} (hk : k d1 d2 = .ok d) (ha : SP p f d1) (hb : SP p g d2) : SP p (fun e => (f e).bind fun x => (g e).bind fun y => k x y) d := fun e he => by
  show (f e).bind _ = _
  rw [ha e he]
  show (g e).bind _ = _
  rw [hb e he]
  exact hk
theorem sp_op {f g : List D → R D} {k : D → D → Option D} {d1 d2 d : D} (hk : k d1 d2 = some d) (ha : SP p f d1) (hb : SP p g d2) : SP p (eOp k f g) d := sp_2 (k := fun x y => ofO (k x y)) (by rw [hk]; rfl) ha hb
theorem se_op {f g : List D → R D} {k : D → D → Option D} {ra : R α} {rb : R β} {h : α → β → R γ} (hk : ∀ x y, Ref (ofO (k (ea x) (eb y))) ((h x y).map ec)) (ha : SE p f ra ea) (hb : SE p g rb eb) : SE p (eOp k f g) (ra.bind fun x => rb.bind fun y => h x y) ec := se_2 hk ha hb
theorem se_opP {f g : List D → R D} {k : D → D → Option D} {d1 d2 : D} {h : R γ} (hk : Ref (ofO (k d1 d2)) (h.map ec)) (ha : SP p f d1) (hb : SP p g d2) : SE p (eOp k f g) h ec := se_2p hk ha hb
end
def mulR (x y : Int) : R Int := if IntMulOk x y then .ok (x * y) else .bad
def divR (x y : Int) : R Int := if CDivP x y then .ok (x / y) else .bad
def modR (x y : Int) : R Int := if 0 < y then .ok (x % y) else .bad
def shlR (x y : Int) : R Int := if CShl x y then .ok (x * 2 ^ y.toNat) else .bad
def catS (x y : Str) : R Str := if x.length + y.length ≤ sizeLine then .ok (x ++ y) else .bad
theorem ref_ite {α β : Type} {c : Prop} [Decidable c] {a : α} {f : α → β} : Ref (ofO (if c then some (f a) else none)) ((if c then R.ok a else R.bad).map f) := by
  by_cases h : c
  · rw [if_pos h, if_pos h]; exact .inr rfl
  · rw [if_neg h, if_neg h]; exact .inl rfl
theorem k_mul (x y : Int) : Ref (ofO (gMul (.int x) (.int y))) ((mulR x y).map D.int) := ref_ite
theorem k_fdiv (x y : Int) : Ref (ofO (gFdiv (.int x) (.int y))) ((divR x y).map D.int) := ref_ite
theorem k_mod (x y : Int) : Ref (ofO (gMod (.int x) (.int y))) ((modR x y).map D.int) := ref_ite
theorem k_shl (x y : Int) : Ref (ofO (gShl (.int x) (.int y))) ((shlR x y).map D.int) := ref_ite
theorem k_catS (x y : Str) : Ref (ofO (gAdd (.str x) (.str y))) ((catS x y).map D.str) := ref_ite
theorem g_mulL (c x : Int) (h1 : -(2 ^ 64) < c := by decide) (h2 : c < 2 ^ 64 := by decide) : gMul (.int c) (.int x) = some (.int (c * x)) := if_pos (mulOk_left h1 h2)
theorem g_divC (x c : Int) (h1 : 0 < c := by decide) (h2 : c < 1073741824 := by decide) : gFdiv (.int x) (.int c) = some (.int (x / c)) := if_pos (divP_small h1 h2)
theorem g_modC (x c : Int) (h1 : 0 < c := by decide) : gMod (.int x) (.int c) = some (.int (x % c)) := if_pos h1
theorem g_powC (x y z : Int) (h1 : CPow x y := by decide) (h2 : x ^ y.toNat = z := by decide +kernel) : gPow (.int x) (.int y) = some (.int z) := by rw [gPow_int, if_pos h1, h2]
def Inj {α : Type} (f : α → D) : Prop := ∀ x y, f x = f y → x = y
structure Flt {α : Type} (f : α → D) : Prop where
  fl : ∀ x, flatD (f x) = true
  eq : ∀ x y, eqFl (f x) (f y) = true ↔ x = y
theorem flt_int : Flt D.int := ⟨fun _ => rfl, fun x y => by simp [eqFl]⟩
theorem flt_str : Flt D.str := ⟨fun _ => rfl, fun x y => by simp [eqFl]⟩
section
variable {α β γ δ ε : Type} {f : α → D} {g : β → D} {h : γ → D}
theorem Flt.all (F : Flt f) (l : List α) : (l.map f).all flatD = true := by
  rw [List.all_eq_true]
  intro x hx
  obtain ⟨y, _, rfl⟩ := List.mem_map.mp hx
  exact F.fl y
theorem Flt.inDs [DecidableEq α] (F : Flt f) (x : α) (l : List α) : inDs (f x) (l.map f) = some (decide (x ∈ l)) := by
  unfold L2.VL.inDs
  rw [F.fl, F.all, Bool.and_self, if_pos rfl]
  congr 1
  rw [Bool.eq_iff_iff, List.any_eq_true, decide_eq_true_iff]
  constructor
  · rintro ⟨y, hy, e⟩
    obtain ⟨z, hz, rfl⟩ := List.mem_map.mp hy
    rw [F.eq] at e
    exact e ▸ hz
  · intro hx
    exact ⟨f x, List.mem_map.mpr ⟨x, hx, rfl⟩, (F.eq x x).mpr rfl⟩
theorem g_inL [DecidableEq α] (F : Flt f) (x : α) (l : List α) : gIn (f x) (.lst (l.map f)) = some (.bl (decide (x ∈ l))) := by rw [gIn_lst, F.inDs]; rfl
theorem g_inT [DecidableEq α] (F : Flt f) (x : α) (l : List α) : gIn (f x) (.tup (l.map f)) = some (.bl (decide (x ∈ l))) := by rw [gIn_tup, F.inDs]; rfl
theorem g_ninT [DecidableEq α] (F : Flt f) (x : α) (l : List α) : gNotIn (f x) (.tup (l.map f)) = some (.bl (!decide (x ∈ l))) := by rw [gNotIn_tup, F.inDs]; rfl
theorem inj_int : Inj D.int := fun x y e => by cases e; rfl
theorem inj_str : Inj D.str := fun x y e => by cases e; rfl
theorem inj_map {α : Type} {f : α → D} (F : Inj f) : ∀ xs ys : List α, xs.map f = ys.map f → xs = ys
  | [], [], _ => rfl
  | x :: xs, y :: ys, h => by
    rw [List.map_cons, List.map_cons, List.cons.injEq] at h
    rw [F x y h.1, inj_map F xs ys h.2]
  | [], _ :: _, h => by cases h
  | _ :: _, [], h => by cases h
theorem inj_L (F : Inj f) : Inj (eL f) := fun x y e => inj_map F x y (by injection e)
theorem inj_4 {h : γ → D} {k : δ → D} (F : Inj f) (G : Inj g) (H : Inj h) (K : Inj k) : Inj (e4 f g h k) := fun x y e => by
  obtain ⟨x1, x2, x3, x4⟩ := x
  obtain ⟨y1, y2, y3, y4⟩ := y
  injection e with e
  injection e with a e
  injection e with b e
  injection e with c e
  injection e with d e
  rw [show x1 = y1 from F _ _ a, show x2 = y2 from G _ _ b, show x3 = y3 from H _ _ c, show x4 = y4 from K _ _ d]
theorem eqD_inj [DecidableEq α] (F : Inj f) {x y : α} (h : (plD 20 (f x) && plD 20 (f y)) = true) : eqD (f x) (f y) = some (decide (x = y)) := by
  rw [Bool.and_eq_true] at h
  rw [eqD_py h.1 h.2]
  congr 1
  rw [Bool.eq_iff_iff, decide_eq_true_iff, pl_eq 20 _ _ h.1 h.2]
  exact ⟨F x y, fun e => by rw [e]⟩
def neR [DecidableEq α] (f : α → D) (x y : α) : R Bool := if plD 20 (f x) && plD 20 (f y) then .ok (!decide (x = y)) else .bad
theorem k_ne [DecidableEq α] (F : Inj f) (x y : α) : Ref (ofO (gNe (f x) (f y))) ((neR f x y).map D.bl) := by
  unfold neR gNe
  by_cases h : (plD 20 (f x) && plD 20 (f y)) = true
  · rw [if_pos h, eqD_inj F h]; exact .inr rfl
  · rw [if_neg h]; exact .inl rfl
end
section
variable {p : Pat} {α β γ δ τ σ σ' ρ : Type} {ea : α → D} {eb : β → D} {ec : γ → D} {f g : List D → R D} {c1 c2 : List D → R Bool}
theorem se_and {ra rb : R Bool} (ha : SE p f ra D.bl) (hb : SE p g rb D.bl) : SE p (eAnd f g) (ra.bind fun a => if a then rb else .ok false) D.bl := fun e he => (ha e he).bind fun a => by
  cases a with
  | true => exact hb e he
  | false => exact .inr rfl
theorem sc_val {b : Bool} (h : SP p f (.bl b)) : SCp p (tVal f) b := fun e he => by
  show (f e).bind asB = _
  rw [h e he]
  rfl
theorem sc_valE {r : R Bool} (h : SE p f r D.bl) : SC p (tVal f) r := fun e he => by
  have := h e he
  show Ref ((f e).bind asB) _
  cases r with
  | bad => exact .inl rfl
  | ex c => rw [this.ex]; exact .inr rfl
  | ok b => rw [this.ok]; exact .inr rfl
theorem sc_notE {r : R Bool} (h : SC p c1 r) : SC p (tNotB c1) (r.bind fun b => .ok (!b)) := fun e he => (h e he).bind1 fun _ => .inr rfl
theorem sc_or {a b : Bool} (ha : SCp p c1 a) (hb : SCp p c2 b) : SCp p (tOrB c1 c2) (a || b) := fun e he => by
  show (c1 e).bind _ = _
  rw [ha e he]
  cases a with
  | true => rfl
  | false => exact hb e he
theorem sc_andE {ra rb : R Bool} (ha : SC p c1 ra) (hb : SC p c2 rb) : SC p (tAndB c1 c2) (ra.bind fun a => if a then rb else .ok false) := fun e he => (ha e he).bind1 fun a => by
  cases a with
  | true => exact hb e he
  | false => exact .inr rfl
theorem sc_orE {ra rb : R Bool} (ha : SC p c1 ra) (hb : SC p c2 rb) : SC p (tOrB c1 c2) (ra.bind fun a => if a then .ok true else rb) := fun e he => (ha e he).bind1 fun a => by
  cases a with
  | true => exact .inr rfl
  | false => exact hb e he
theorem sc_true : SCp p tTrue true := fun _ _ => rfl
theorem sa_nil : SAp p aNil [] := fun _ _ => rfl
theorem sa_cons {fs : List D → R (List D)} {d : D} {ds : List D} (h : SP p f d) (hs : SAp p fs ds) : SAp p (aCons f fs) (d :: ds) := fun e he => by
  show (f e).bind _ = _
  rw [h e he]
  show (fs e).bind _ = _
  rw [hs e he]
  rfl
theorem sa_nilE : SA p aNil (.ok ()) (fun _ => []) := fun _ _ => .inr rfl
theorem sa_consE {fs : List D → R (List D)} {r : R α} {rs : R τ} {es : τ → List D} (h : SE p f r ea) (hs : SA p fs rs es) : SA p (aCons f fs) (r.bind fun x => rs.bind fun xs => .ok (x, xs)) (fun t => ea t.1 :: es t.2) := fun e he => by
  refine (h e he).bind fun x => ?_
  exact (hs e he).bind fun xs => .inr rfl
theorem se_call {fs : List D → R (List D)} {M : List D → R D} {ds : List D} {T : R α} (hs : SAp p fs ds) (h : Ref (M ds) (T.map ea)) : SE p (eCall M fs) T ea := fun e he => by
  show Ref ((fs e).bind M) _
  rw [hs e he]
  exact h
theorem se_callE {fs : List D → R (List D)} {M : List D → R D} {rs : R τ} {es : τ → List D} {T : τ → R α} (hs : SA p fs rs es) (h : ∀ t, Ref (M (es t)) ((T t).map ea)) : SE p (eCall M fs) (rs.bind T) ea := fun e he => (hs e he).bind h
theorem sp_b {fs : List D → R (List D)} {k : List D → Option D} {ds : List D} {d : D} (hs : SAp p fs ds) (h : k ds = some d) : SP p (eB k fs) d := fun e he => by
  show (fs e).bind _ = _
  rw [hs e he]
  show ofO (k ds) = _
  rw [h]
  rfl
theorem se_b {fs : List D → R (List D)} {k : List D → Option D} {ds : List D} {T : R α} (hs : SAp p fs ds) (h : Ref (ofO (k ds)) (T.map ea)) : SE p (eB k fs) T ea := fun e he => by
  show Ref ((fs e).bind _) _
  rw [hs e he]
  exact h
theorem se_bE {fs : List D → R (List D)} {k : List D → Option D} {rs : R τ} {es : τ → List D} {T : τ → R α} (hs : SA p fs rs es) (h : ∀ t, Ref (ofO (k (es t))) ((T t).map ea)) : SE p (eB k fs) (rs.bind T) ea := fun e he => (hs e he).bind h
theorem sp_tup {fs : List D → R (List D)} {ds : List D} (hs : SAp p fs ds) (h : ds.length ≤ sizeLine := by exact of_decide_eq_true rfl) : SP p (eTup fs) (.tup ds) := fun e he => by
  show (fs e).bind _ = _
  rw [hs e he]
  exact if_pos h
theorem sp_lst {fs : List D → R (List D)} {ds : List D} (hs : SAp p fs ds) (h : ds.length ≤ sizeLine := by exact of_decide_eq_true rfl) : SP p (eLst fs) (.lst ds) := fun e he => by
  show (fs e).bind _ = _
  rw [hs e he]
  exact if_pos h
theorem se_tup {fs : List D → R (List D)} {rs : R τ} {es : τ → List D} {T : τ → α} (hs : SA p fs rs es) (h : ∀ t, D.tup (es t) = ea (T t)) (hl : ∀ t, (es t).length ≤ sizeLine := by intro _; exact of_decide_eq_true rfl) : SE p (eTup fs) (rs.bind fun t => .ok (T t)) ea := fun e he => by
  refine (hs e he).bind fun t => ?_
  show Ref (if (es t).length ≤ sizeLine then _ else _) _
  rw [if_pos (hl t), h]
  exact .inr rfl
theorem se_lst {fs : List D → R (List D)} {rs : R τ} {es : τ → List D} {T : τ → α} (hs : SA p fs rs es) (h : ∀ t, D.lst (es t) = ea (T t)) (hl : ∀ t, (es t).length ≤ sizeLine := by intro _; exact of_decide_eq_true rfl) : SE p (eLst fs) (rs.bind fun t => .ok (T t)) ea := fun e he => by
  refine (hs e he).bind fun t => ?_
  show Ref (if (es t).length ≤ sizeLine then _ else _) _
  rw [if_pos (hl t), h]
  exact .inr rfl
end
end L2.VL
set_option Elab.async false
set_option linter.all false
set_option maxRecDepth 100000
set_option maxHeartbeats 4000000
namespace L2.VL
open PySem PySem.Spec PyProof.Rows
section
variable {p : Pat} {α β γ δ τ σ σ' ρ : Type} {ea : α → D} {eb : β → D} {ec : γ → D} {f g : List D → R D} {c1 c2 : List D → R Bool}
theorem atI_map {α β : Type} (f : α → β) (l : List α) (k : Int) : atI (l.map f) k = (atI l k).map f := by
  unfold atI
  rw [List.length_map]
  cases ixN l.length k with
  | none => rfl
  | some j => exact List.getElem?_map
def atR {α : Type} (l : List α) (k : Int) : R α := ofO (atI l k)
def atSR (z : Str) (k : Int) : R Str := if z.length ≤ sizeLine then ofO ((atI z.cps.toList k).map fun c => ⟨#[c]⟩) else .bad
theorem ofO_map {α β : Type} (f : α → β) (o : Option α) : ofO (o.map f) = (ofO o).map f := by cases o <;> rfl
theorem k_atL (l : List α) (k : Int) : Ref (atD (.lst (l.map ea)) (.int k)) ((atR l k).map ea) := .inr (by rw [atD_lst, atI_map, ofO_map]; rfl)
theorem k_atS (z : Str) (k : Int) : Ref (atD (.str z) (.int k)) ((atSR z k).map D.str) := by
  rw [atD_str]
  unfold atSR
  by_cases h : z.length ≤ sizeLine
  · rw [if_pos h, if_pos h]
    cases atI z.cps.toList k <;> exact .inr rfl
  · rw [if_neg h, if_neg h]; exact .inl rfl
theorem se_ixP {d1 d2 : D} {h : R γ} (hk : Ref (atD d1 d2) (h.map ec)) (ha : SP p f d1) (hb : SP p g d2) : SE p (eIx f g) h ec := se_2p hk ha hb
theorem se_ix {ra : R α} {rb : R β} {h : α → β → R γ} (hk : ∀ x y, Ref (atD (ea x) (eb y)) ((h x y).map ec)) (ha : SE p f ra ea) (hb : SE p g rb eb) : SE p (eIx f g) (ra.bind fun x => rb.bind fun y => h x y) ec := se_2 hk ha hb
theorem sp_ix {d1 d2 d : D} (hk : atD d1 d2 = .ok d) (ha : SP p f d1) (hb : SP p g d2) : SP p (eIx f g) d := sp_2 hk ha hb
theorem cutL_map {α β : Type} (f : α → β) (l : List α) (lo hi : Option Int) : cutL (l.map f) lo hi = (cutL l lo hi).map f := by
  unfold cutL
  rw [List.length_map, List.map_take, List.map_drop]
theorem se_slL {m : Tg} {pl ph : List D → R (Option Int)} {ra : R (List α)} {r1 r2 : R (Option Int)} (ha : SE p f ra (eL ea)) (h1 : SO p pl r1) (h2 : SO p ph r2) (hc : ∀ l : List α, cnOk m (l.map ea) = true) :
    SE p (eSlL m f pl ph) (ra.bind fun l => r1.bind fun lo => r2.bind fun hi => .ok (cutL l lo hi)) (eL ea) := fun e he => by
  refine (ha e he).bind fun l => ?_
  have g1 := h1 e he
  have g2 := h2 e he
  cases r1 with
  | bad => exact .inl rfl
  | ex c => rw [g1.ex]; exact .inr rfl
  | ok lo =>
    rw [g1.ok]
    cases r2 with
    | bad => exact .inl rfl
    | ex c => rw [R.bind_ok, g2.ex]; exact .inr rfl
    | ok hi =>
      rw [R.bind_ok, g2.ok, R.bind_ok, slD_lst, if_pos (hc l), cutL_map]
      exact .inr rfl
def cutSR (z : Str) (lo hi : Option Int) : R Str := if z.length ≤ sizeLine then .ok (cutS z lo hi) else .bad
theorem cn_flt (F : Flt ea) (m : Tg) (l : List α) : cnOk m (l.map ea) = true := by
  unfold cnOk
  rw [F.all, Bool.or_true]
theorem sp_asLL {m : Tg} {l : List α} (ha : SP p f (eL ea l)) (hc : cnOk m (l.map ea) = true) : SP p (eAsL m f) (eL ea l) := sp_1 (k := asL m) (show asL m (eL ea l) = _ from if_pos hc) ha
theorem sp_asT {m : Tg} {l : List α} (ha : SP p f (eL ea l)) (hc : cnOk m (l.map ea) = true) : SP p (eAsT m f) (eT ea l) := sp_1 (k := asT m) (show asT m (eL ea l) = _ from if_pos hc) ha
theorem se_asT {m : Tg} {r : R (List α)} (ha : SE p f r (eL ea)) (hc : ∀ l : List α, cnOk m (l.map ea) = true) : SE p (eAsT m f) r (eT ea) := fun e he => by
  have g := ha e he
  show Ref ((f e).bind _) _
  cases r with
  | bad => exact .inl rfl
  | ex c => rw [g.ex]; exact .inr rfl
  | ok l => rw [g.ok]; exact .inr (if_pos (hc l))
def catR {α : Type} (a b : List α) : R (List α) := if a.length + b.length ≤ sizeLine then .ok (a ++ b) else .bad
theorem ref_iteR {α β : Type} {c : Prop} [Decidable c] {a : α} {b : β} {f : α → β} (h : b = f a) : Ref (if c then R.ok b else R.bad) ((if c then R.ok a else R.bad).map f) := by
  subst h
  by_cases h : c
  · rw [if_pos h, if_pos h]; exact .inr rfl
  · rw [if_neg h, if_neg h]; exact .inl rfl
theorem k_catL (a b : List α) : Ref (catL (eL ea a) (eL ea b)) ((catR a b).map (eL ea)) := by
  show Ref (if (a.map ea).length + (b.map ea).length ≤ sizeLine then _ else _) _
  rw [List.length_map, List.length_map]
  exact ref_iteR (by rw [eL, List.map_append])
theorem k_catT (a b : List α) : Ref (catT (eT ea a) (eT ea b)) ((catR a b).map (eT ea)) := by
  show Ref (if (a.map ea).length + (b.map ea).length ≤ sizeLine then _ else _) _
  rw [List.length_map, List.length_map]
  exact ref_iteR (by rw [eT, List.map_append])
theorem se_catL {ra rb : R (List α)} (ha : SE p f ra (eL ea)) (hb : SE p g rb (eL ea)) : SE p (eCatL f g) (ra.bind fun x => rb.bind fun y => catR x y) (eL ea) := se_2 (fun x y => k_catL x y) ha hb
theorem se_catT {ra rb : R (List α)} (ha : SE p f ra (eT ea)) (hb : SE p g rb (eT ea)) : SE p (eCatT f g) (ra.bind fun x => rb.bind fun y => catR x y) (eT ea) := se_2 (fun x y => k_catT x y) ha hb
theorem g_lenL (l : List α) : gLen [eL ea l] = some (.int l.length) := by show some (D.int ((l.map ea).length : Int)) = _; rw [List.length_map]
theorem g_lenT (l : List α) : gLen [eT ea l] = some (.int l.length) := by show some (D.int ((l.map ea).length : Int)) = _; rw [List.length_map]
def lenS (z : Str) : R Int := if z.length ≤ sizeLine then .ok z.length else .bad
theorem k_lenS (z : Str) : Ref (ofO (gLen [.str z])) ((lenS z).map D.int) := ref_ite (f := D.int) (a := (z.length : Int))
theorem g_sumL (l : List Int) : gSum [eL D.int l] = some (.int l.sum) := by show (asInts (l.map D.int)).map _ = _; rw [asInts_map]; rfl
def minR (l : List Int) : R Int := ofO l.min?
theorem k_minL (l : List Int) : Ref (ofO (gMin [eL D.int l])) ((minR l).map D.int) := .inr (by show ofO ((asInts (l.map D.int)).bind _) = _; rw [asInts_map]; show ofO (l.min?.map D.int) = _; rw [ofO_map]; rfl)
def isiR (T : String) (d : D) : R Bool := ofO (isiD T d)
theorem se_isiP {T : String} {d : D} (ha : SP p f d) : SE p (eIsi T f) (isiR T d) D.bl := se_1p (k := fun d => ofO ((isiD T d).map .bl)) (.inr (by unfold isiR; rw [ofO_map])) ha
theorem si_lst {r : R (List α)} (h : SE p f r (eL ea)) : SI p (iLst f) r ea := fun e he => by
  have g := h e he
  show Ref ((f e).bind _) _
  cases r with
  | bad => exact .inl rfl
  | ex c => rw [g.ex]; exact .inr rfl
  | ok l => rw [g.ok]; exact .inr rfl
theorem si_tup {r : R (List α)} (h : SE p f r (eT ea)) : SI p (iTupl f) r ea := fun e he => by
  have g := h e he
  show Ref ((f e).bind _) _
  cases r with
  | bad => exact .inl rfl
  | ex c => rw [g.ex]; exact .inr rfl
  | ok l => rw [g.ok]; exact .inr rfl
def sgns (z : Str) : List Str := z.cps.toList.map fun c => ⟨#[c]⟩
theorem si_str {r : R Str} (h : SE p f r D.str) : SI p (iStrg f) (r.bind fun z => .ok (sgns z)) D.str := fun e he => by
  have g := h e he
  show Ref ((f e).bind _) _
  cases r with
  | bad => exact .inl rfl
  | ex c => rw [g.ex]; exact .inr rfl
  | ok l =>
    rw [g.ok]
    refine .inr ?_
    show R.ok _ = R.ok ((sgns l).map D.str)
    unfold sgns
    rw [List.map_map]
    rfl
def rng (a b : Int) : List Int := (List.range (b - a).toNat).map fun (i : Nat) => a + (i : Int)
theorem rng_eq (a b : Int) : rngOf a b = (rng a b).map D.int := by unfold rngOf rng; rw [List.map_map]; rfl
def rngR1 (j : Int) : R (List Int) := if inR j then .ok (rng 0 j) else .bad
theorem si_rng1 {fs : List D → R (List D)} {r : R Int} (h : SE p f r D.int) : SI p (iRng rng1 (aCons f aNil)) (r.bind rngR1) D.int := fun e he => by
  have g := h e he
  show Ref (((f e).bind _).bind _) _
  cases r with
  | bad => exact .inl rfl
  | ex c => rw [g.ex]; exact .inr rfl
  | ok j =>
    rw [g.ok]
    show Ref (if inR j then _ else _) ((rngR1 j).map _)
    exact ref_iteR (rng_eq 0 j)
theorem si_revL {r : R (List α)} (h : SE p f r (eL ea)) : SI p (iRevL f) (r.bind fun l => .ok l.reverse) ea := fun e he => by
  have g := h e he
  show Ref (((f e).bind _).bind _) _
  cases r with
  | bad => exact .inl rfl
  | ex c => rw [g.ex]; exact .inr rfl
  | ok l => rw [g.ok]; exact .inr (by show R.ok ((l.map ea).reverse) = R.ok (l.reverse.map ea); rw [List.map_reverse])
def enumN {α : Type} (l : List α) : List (Int × α) := l.zipIdx.map fun p => ((p.2 : Int), p.1)
theorem enum_eq (l : List α) : enumL (l.map ea) = (enumN l).map fun x => (D.int x.1, ea x.2) := by
  unfold enumL enumN
  rw [List.zipIdx_map, List.map_map, List.map_map]
  rfl
theorem si_enum {r : R (List α)} (h : SE p f r (eL ea)) : SI2 p (iEnumL f) (r.bind fun l => .ok (enumN l)) D.int ea := fun e he => by
  have g := h e he
  show Ref ((f e).bind _) _
  cases r with
  | bad => exact .inl rfl
  | ex c => rw [g.ex]; exact .inr rfl
  | ok l => rw [g.ok]; exact .inr (congrArg R.ok (enum_eq l))
def cmpR {α β : Type} (c : α → R Bool) (g : α → R β) : List α → R (List β)
  | [] => .ok []
  | x :: xs => (noX (c x)).bind fun b => if b then (noX (g x)).bind fun y => (cmpR c g xs).bind fun ys => .ok (y :: ys) else cmpR c g xs
def fitN {α : Type} (ys : List α) : R (List α) := if ys.length ≤ sizeLine then .ok ys else .bad
def TGs (t : D → List D → Option (List D)) (enc : α → D) (p : Pat) (Pt : α → Pat) : Prop := ∀ x e, EM p e → ∃ e1, t (enc x) e = some e1 ∧ EM (Pt x) e1
theorem noX_ref {a b : R α} (h : Ref a b) : Ref (noX a) (noX b) := by
  rcases h with h | h
  · subst h; exact .inl rfl
  · subst h; exact .inr rfl
theorem noX_map (f : α → β) (a : R α) : noX (a.map f) = (noX a).map f := by cases a <;> rfl
theorem cmp_sim {t : D → List D → Option (List D)} {Pt : α → Pat} {c : List D → R Bool} {m : List D → R D} {rc : α → R Bool} {rm : α → R β} (ht : TGs t ea p Pt) (hc : ∀ x, SC (Pt x) c (rc x)) (hm : ∀ x, SE (Pt x) m (rm x) eb) {e : List D} (he : EM p e) :
    ∀ l : List α, Ref (compL t c m e (l.map ea)) ((cmpR rc rm l).map (·.map eb))
  | [] => .inr rfl
  | x :: xs => by
    obtain ⟨e1, h1, h2⟩ := ht x e he
    rw [List.map_cons, compL, h1, ofO_some, R.bind_ok]
    refine Ref.bind (f := id) (b := noX (rc x)) ?_ fun b => ?_
    · have := noX_ref (hc x e1 h2)
      cases hr : noX (rc x) <;> rw [hr] at this <;> exact this
    · cases b with
      | true =>
        refine Ref.bind (f := eb) (b := noX (rm x)) ?_ fun y => ?_
        · have := noX_ref (hm x e1 h2)
          rw [noX_map] at this
          exact this
        · exact (cmp_sim ht hc hm he xs).bind fun ys => .inr rfl
      | false => exact cmp_sim ht hc hm he xs
theorem se_comp {it : List D → R (List D)} {t : D → List D → Option (List D)} {Pt : α → Pat} {c : List D → R Bool} {m : List D → R D} {rl : R (List α)} {rc : α → R Bool} {rm : α → R β} (hi : SI p it rl ea) (ht : TGs t ea p Pt) (hc : ∀ x, SC (Pt x) c (rc x)) (hm : ∀ x, SE (Pt x) m (rm x) eb) :
    SE p (eComp it t c m) (rl.bind fun l => (cmpR rc rm l).bind fitN) (eL eb) := fun e he => by
  refine (hi e he).bind fun l => ?_
  refine (cmp_sim ht hc hm he l).bind fun ys => ?_
  show Ref (if (ys.map eb).length ≤ sizeLine then _ else _) ((fitN ys).map _)
  rw [List.length_map]
  exact ref_iteR rfl
theorem se_m1 {k : Str → D → Option D} {ra : R Str} {rb : R β} {h : Str → β → R γ} (hk : ∀ x y, Ref (ofO (k x (eb y))) ((h x y).map ec)) (ha : SE p f ra D.str) (hb : SE p g rb eb) : SE p (eM1 k f g) (ra.bind fun x => rb.bind fun y => h x y) ec :=
  fun e he => (ha e he).bind fun x => (hb e he).bind fun y => hk x y
def joinR (a : Str) (ys : List Str) : R Str := if (ys.map (·.length)).sum + ys.length * a.length ≤ 16777216 then .ok (Txt.join a ys) else .bad
theorem k_joinL (a : Str) (ys : List Str) : Ref (ofO (gJoin a (eL D.str ys))) ((joinR a ys).map D.str) := by
  show Ref (ofO ((asStrs (ys.map D.str)).bind _)) _
  rw [asStrs_map]
  exact ref_ite
def ninSR (x z : Str) : R Bool := ofO ((sign1 x).map fun c => !decide (c ∈ z.cps.toList))
theorem k_ninS (x z : Str) : Ref (ofO (gNotInS (.str x) (.str z))) ((ninSR x z).map D.bl) := .inr (by unfold ninSR; rw [gNotInS_str]; cases sign1 x <;> rfl)
end
end L2.VL
set_option Elab.async false
set_option linter.all false
set_option maxRecDepth 100000
set_option maxHeartbeats 4000000
namespace L2.VL
open PySem PySem.Spec PyProof.Rows
def foldR {σ α : Type} (f : σ → α → R σ) : List α → σ → R σ
  | [], s => .ok s
  | a :: l, s => (f s a).bind fun s' => foldR f l s'
def TF.thn {σ σ' ρ : Type} (t : TF σ ρ) (k : σ → R (TF σ' ρ)) : R (TF σ' ρ) := match t with
  | .nx s => k s
  | .rt d => .ok (.rt d)
def TF.thx {σ ρ : Type} (t : TF σ ρ) (k : σ → R ρ) : R ρ := match t with
  | .nx s => k s
  | .rt d => .ok d
@[simp] theorem TF.thn_nx {σ σ' ρ : Type} (s : σ) (k : σ → R (TF σ' ρ)) : (TF.nx s).thn k = k s := rfl
@[simp] theorem TF.thn_rt {σ σ' ρ : Type} (d : ρ) (k : σ → R (TF σ' ρ)) : (TF.rt d).thn k = .ok (.rt d) := rfl
@[simp] theorem TF.thx_nx {σ ρ : Type} (s : σ) (k : σ → R ρ) : (TF.nx s).thx k = k s := rfl
@[simp] theorem TF.thx_rt {σ ρ : Type} (d : ρ) (k : σ → R ρ) : (TF.rt d).thx k = .ok d := rfl
def forR {σ ρ α : Type} (f : σ → α → R (TF σ ρ)) : List α → σ → R (TF σ ρ)
  | [], s => .ok (.nx s)
  | a :: l, s => (f s a).bind fun t => t.thn (forR f l)
section
variable {p : Pat} {α β γ δ τ σ σ1 σ2 ρ : Type} {ea : α → D} {eb : β → D} {enc : ρ → D} {f : List D → R D} {c : List D → R Bool} {g g1 g2 g3 : List D → R Fl} {P : σ → Pat} {P1 : σ1 → Pat} {P2 : σ2 → Pat}
theorem sn_nil : SN p sNil (.ok ()) (fun _ => p) := fun e he => .inr (.inr ⟨(), e, rfl, rfl, he⟩)
theorem sn_asg {i : Nat} {r : R α} {P : α → Pat} (h : SE p f r ea) (hP : ∀ x, P x = p.set i (some (ea x)) := by intro _; rfl) : SN p (sAsg i f) r P := fun e he => by
  have g := h e he
  show r = .bad ∨ _
  cases r with
  | bad => exact .inl rfl
  | ex c => exact .inr (.inl ⟨c, rfl, by show (f e).bind _ = _; rw [g.ex]; rfl⟩)
  | ok x => exact .inr (.inr ⟨x, e.set i (ea x), rfl, by show (f e).bind _ = _; rw [g.ok]; rfl, by rw [hP]; exact he.set i⟩)
theorem sn_drop {r : R α} (h : SE p f r ea) : SN p (sDrop f) (r.bind fun _ => .ok ()) (fun _ => p) := fun e he => by
  have g := h e he
  cases r with
  | bad => exact .inl rfl
  | ex c => exact .inr (.inl ⟨c, rfl, by show (f e).bind _ = _; rw [g.ex]; rfl⟩)
  | ok x => exact .inr (.inr ⟨(), e, rfl, by show (f e).bind _ = _; rw [g.ok]; rfl, he⟩)
theorem sn_seq {s1 : R σ1} {s2 : σ1 → R σ} (h1 : SN p g1 s1 P1) (h2 : ∀ y, SN (P1 y) g2 (s2 y) P) : SN p (sSeq g1 g2) (s1.bind s2) P := fun e he => by
  rcases h1 e he with h | ⟨c, h, k⟩ | ⟨y, e', h, k, m⟩
  · subst h; exact .inl rfl
  · subst h; exact .inr (.inl ⟨c, rfl, by show (g1 e).bind _ = _; rw [k]; rfl⟩)
  · subst h
    have : sSeq g1 g2 e = g2 e' := by show (g1 e).bind _ = _; rw [k]; rfl
    rw [this]
    exact h2 y e' m
theorem sn_yield {s1 : R σ1} (h1 : SN p g s1 P1) (h : σ1 → σ) (hP : ∀ y, PLe (P (h y)) (P1 y)) : SN p g (s1.bind fun y => .ok (h y)) P := fun e he => by
  rcases h1 e he with h | ⟨c, h, k⟩ | ⟨y, e', h, k, m⟩
  · subst h; exact .inl rfl
  · subst h; exact .inr (.inl ⟨c, rfl, k⟩)
  · subst h; exact .inr (.inr ⟨_, e', rfl, k, EM.le (hP y) m⟩)
theorem sn_if {rc : R Bool} {s1 s2 : R σ} (hc : SC p c rc) (h1 : SN p g1 s1 P) (h2 : SN p g2 s2 P) : SN p (sIf c g1 g2) (rc.bind fun b => if b then s1 else s2) P := fun e he => by
  have g := hc e he
  cases rc with
  | bad => exact .inl rfl
  | ex c' => exact .inr (.inl ⟨c', rfl, by show (c e).bind _ = _; rw [g.ex]; rfl⟩)
  | ok b =>
    cases b with
    | true =>
      have : sIf c g1 g2 e = g1 e := by show (c e).bind _ = _; rw [g.ok]; rfl
      rw [this]
      exact h1 e he
    | false =>
      have : sIf c g1 g2 e = g2 e := by show (c e).bind _ = _; rw [g.ok]; rfl
      rw [this]
      exact h2 e he
theorem sn_raise {n : Str} : SN p (sRaise n) (.ex n : R σ) P := fun e he => .inr (.inl ⟨n, rfl, rfl⟩)
theorem fold_sim {t : D → List D → Option (List D)} {P : σ → Pat} {Pt : σ → α → Pat} {st : σ → α → R σ} (ht : ∀ s, TGs t ea (P s) (Pt s)) (hb : ∀ s x, SN (Pt s x) g (st s x) P) :
    ∀ (l : List α) (s : σ) (e : List D), EM (P s) e → foldR st l s = .bad ∨ (∃ c, foldR st l s = .ex c ∧ forL t g (l.map ea) e = .ex c) ∨ ∃ y e', foldR st l s = .ok y ∧ forL t g (l.map ea) e = .ok (.nx e') ∧ EM (P y) e'
  | [], s, e, he => .inr (.inr ⟨s, e, rfl, rfl, he⟩)
  | x :: l, s, e, he => by
    obtain ⟨e1, h1, h2⟩ := ht s x e he
    rw [List.map_cons, forL, h1, foldR, ofO_some, R.bind_ok]
    rcases hb s x e1 h2 with h | ⟨c, h, k⟩ | ⟨y, e', h, k, m⟩
    · rw [h]; exact .inl rfl
    · rw [h, k]; exact .inr (.inl ⟨c, rfl, rfl⟩)
    · rw [h, k]
      exact fold_sim ht hb l y e' m
theorem sn_for {it : List D → R (List D)} {t : D → List D → Option (List D)} {rl : R (List α)} {P : σ → Pat} {Pt : σ → α → Pat} {st : σ → α → R σ} (s0 : σ) (hi : SI p it rl ea) (h0 : PLe (P s0) p) (ht : ∀ s, TGs t ea (P s) (Pt s)) (hb : ∀ s x, SN (Pt s x) g (st s x) P) :
    SN p (sFor it t g) (rl.bind fun l => foldR st l s0) P := fun e he => by
  have gi := hi e he
  cases rl with
  | bad => exact .inl rfl
  | ex c => exact .inr (.inl ⟨c, rfl, by show (it e).bind _ = _; rw [gi.ex]; rfl⟩)
  | ok l =>
    have : sFor it t g e = forL t g (l.map ea) e := by show (it e).bind _ = _; rw [gi.ok]; rfl
    rw [this]
    exact fold_sim ht hb l s0 e (EM.le h0 he)
theorem fold_simP {i j : Nat} {P : σ → Pat} {Pt : σ → α × β → Pat} {st : σ → α × β → R σ} (ht : ∀ s x e, EM (P s) e → EM (Pt s x) ((e.set i (ea x.1)).set j (eb x.2))) (hb : ∀ s x, SN (Pt s x) g (st s x) P) :
    ∀ (l : List (α × β)) (s : σ) (e : List D), EM (P s) e → foldR st l s = .bad ∨ (∃ c, foldR st l s = .ex c ∧ forP i j g (l.map fun x => (ea x.1, eb x.2)) e = .ex c) ∨ ∃ y e', foldR st l s = .ok y ∧ forP i j g (l.map fun x => (ea x.1, eb x.2)) e = .ok (.nx e') ∧ EM (P y) e'
  | [], s, e, he => .inr (.inr ⟨s, e, rfl, rfl, he⟩)
  | x :: l, s, e, he => by
    have h2 := ht s x e he
    rw [List.map_cons, forP, foldR]
    rcases hb s x _ h2 with h | ⟨c, h, k⟩ | ⟨y, e', h, k, m⟩
    · rw [h]; exact .inl rfl
    · rw [h, k]; exact .inr (.inl ⟨c, rfl, rfl⟩)
    · rw [h, k]
      exact fold_simP ht hb l y e' m
theorem sn_forP {it : List D → R (List (D × D))} {i j : Nat} {rl : R (List (α × β))} {P : σ → Pat} {Pt : σ → α × β → Pat} {st : σ → α × β → R σ} (s0 : σ) (hi : SI2 p it rl ea eb) (h0 : PLe (P s0) p) (ht : ∀ s x e, EM (P s) e → EM (Pt s x) ((e.set i (ea x.1)).set j (eb x.2))) (hb : ∀ s x, SN (Pt s x) g (st s x) P) :
    SN p (sForP it i j g) (rl.bind fun l => foldR st l s0) P := fun e he => by
  have gi := hi e he
  cases rl with
  | bad => exact .inl rfl
  | ex c => exact .inr (.inl ⟨c, rfl, by show (it e).bind _ = _; rw [gi.ex]; rfl⟩)
  | ok l =>
    have : sForP it i j g e = forP i j g (l.map fun x => (ea x.1, eb x.2)) e := by show (it e).bind _ = _; rw [gi.ok]; rfl
    rw [this]
    exact fold_simP ht hb l s0 e (EM.le h0 he)
def appR {α : Type} (l : List α) (x : α) : R (List α) := if l.length < sizeLine then .ok (l ++ [x]) else .bad
theorem sn_own {i : Nat} {k : List D → List D → Option (List D)} {fs : List D → R (List D)} {l : List D} {rs : R τ} {es : τ → List D} {T : τ → R (List α)} {P : List α → Pat} (hg : p[i]? = some (some (.lst l))) (hs : SA p fs rs es) (hk : ∀ t, Ref (ofO (k l (es t))) ((T t).map (·.map ea)))
    (hP : ∀ x, P x = p.set i (some (eL ea x)) := by intro _; rfl) : SN p (sOwn i k fs) (rs.bind T) P := fun e he => by
  have g1 := hs e he
  have e1 : sOwn i k fs e = (fs e).bind fun as => ownL i k e l as := by
    show (ownAt i e).bind _ = _
    rw [ownAt_eq, he.get hg]
    rfl
  rw [e1]
  cases rs with
  | bad => exact .inl rfl
  | ex c => exact .inr (.inl ⟨c, rfl, by rw [g1.ex]; rfl⟩)
  | ok t =>
    rw [g1.ok]
    have g2 := hk t
    show T t = _ ∨ (∃ c, T t = _ ∧ ownL i k e l (es t) = _) ∨ ∃ y e', T t = _ ∧ ownL i k e l (es t) = _ ∧ _
    rw [ownL_eq]
    cases h : T t with
    | bad => exact .inl rfl
    | ex c => rw [h] at g2; rw [g2.ex]; exact .inr (.inl ⟨c, rfl, rfl⟩)
    | ok x =>
      rw [h] at g2
      rw [g2.ok]
      exact .inr (.inr ⟨x, _, rfl, rfl, by rw [hP]; exact he.set i⟩)
theorem k_app (l : List α) (x : α) : Ref (ofO (gApp (l.map ea) [ea x])) ((appR l x).map (·.map ea)) := by
  rw [gApp_one, List.length_map]
  unfold appR
  by_cases h : l.length < sizeLine
  · rw [if_pos h, if_pos h]; exact .inr (by show R.ok _ = R.ok (List.map ea (l ++ [x])); rw [List.map_append]; rfl)
  · rw [if_neg h, if_neg h]; exact .inl rfl
theorem sn_aug {i : Nat} {k : D → D → Option D} {d : D} {ra : R α} {h : α → R β} {P : β → Pat} (hg : p[i]? = some (some d)) (ha : SE p f ra ea) (hk : ∀ x, Ref (ofO (k d (ea x))) ((h x).map eb)) (hP : ∀ x, P x = p.set i (some (eb x)) := by intro _; rfl) : SN p (sAug i k f) (ra.bind h) P := fun e he => by
  have g1 := ha e he
  have e1 : sAug i k f e = (f e).bind fun y => (ofO (k d y)).bind fun d => .ok (.nx (e.set i d)) := by
    show (ofO e[i]?).bind _ = _
    rw [he.get hg]
    rfl
  rw [e1]
  cases ra with
  | bad => exact .inl rfl
  | ex c => exact .inr (.inl ⟨c, rfl, by rw [g1.ex]; rfl⟩)
  | ok x =>
    rw [g1.ok, R.bind_ok, R.bind_ok]
    have g2 := hk x
    cases h' : h x with
    | bad => exact .inl rfl
    | ex c => rw [h'] at g2; rw [g2.ex]; exact .inr (.inl ⟨c, rfl, rfl⟩)
    | ok y => rw [h'] at g2; rw [g2.ok]; exact .inr (.inr ⟨y, _, rfl, rfl, by rw [hP]; exact he.set i⟩)
theorem sx_ret {r : R ρ} (h : SE p f r enc) : SX p (sRet f) r enc := fun e he => by
  have g := h e he
  show Ref ((f e).bind _) _
  cases r with
  | bad => exact .inl rfl
  | ex c => rw [g.ex]; exact .inr rfl
  | ok x => rw [g.ok]; exact .inr rfl
theorem sx_raise {n : Str} : SX p (sRaise n) (.ex n : R ρ) enc := fun e he => .inr rfl
theorem sx_seq {s1 : R σ1} {r2 : σ1 → R ρ} (h1 : SN p g1 s1 P1) (h2 : ∀ y, SX (P1 y) g2 (r2 y) enc) : SX p (sSeq g1 g2) (s1.bind r2) enc := fun e he => by
  rcases h1 e he with h | ⟨c, h, k⟩ | ⟨y, e', h, k, m⟩
  · subst h; exact .inl rfl
  · subst h; exact .inr (by show (g1 e).bind _ = _; rw [k]; rfl)
  · subst h
    have : sSeq g1 g2 e = g2 e' := by show (g1 e).bind _ = _; rw [k]; rfl
    rw [this]
    exact h2 y e' m
theorem sx_ifT {rc : R Bool} {s1 : R ρ} {s2 : R σ2} {s3 : σ2 → R ρ} (hc : SC p c rc) (h1 : SX p g1 s1 enc) (h2 : SN p g2 s2 P2) (h3 : ∀ y, SX (P2 y) g3 (s3 y) enc) : SX p (sSeq (sIf c g1 g2) g3) (rc.bind fun b => if b then s1 else s2.bind s3) enc := fun e he => by
  have g := hc e he
  show Ref (((c e).bind _).bind _) _
  cases rc with
  | bad => exact .inl rfl
  | ex c' => rw [g.ex]; exact .inr rfl
  | ok b =>
    rw [g.ok]
    cases b with
    | true =>
      show Ref ((g1 e).bind _) _
      have k := h1 e he
      simp only [R.bind_ok, if_true]
      cases s1 with
      | bad => exact .inl rfl
      | ex c => rw [k.ex]; exact .inr rfl
      | ok x => rw [k.ok]; exact .inr rfl
    | false => exact sx_seq h2 h3 e he
theorem sx_seqB {r1 : R (TF σ1 ρ)} {r2 : σ1 → R ρ} (h1 : SB p g1 r1 P1 enc) (h2 : ∀ y, SX (P1 y) g2 (r2 y) enc) : SX p (sSeq g1 g2) (r1.bind fun t => t.thx r2) enc := fun e he => by
  rcases h1 e he with h | ⟨c, h, k⟩ | ⟨y, e', h, k, m⟩ | ⟨d, h, k⟩
  · subst h; exact .inl rfl
  · subst h; exact .inr (by show (g1 e).bind _ = _; rw [k]; rfl)
  · subst h
    have : sSeq g1 g2 e = g2 e' := by show (g1 e).bind _ = _; rw [k]; rfl
    rw [this]
    exact h2 y e' m
  · subst h; exact .inr (by show (g1 e).bind _ = _; rw [k]; rfl)
theorem sb_n {s : R σ} (h : SN p g s P) : SB p g (s.bind fun y => .ok (.nx y)) P enc := fun e he => by
  rcases h e he with h | ⟨c, h, k⟩ | ⟨y, e', h, k, m⟩
  · subst h; exact .inl rfl
  · subst h; exact .inr (.inl ⟨c, rfl, k⟩)
  · subst h; exact .inr (.inr (.inl ⟨y, e', rfl, k, m⟩))
theorem sb_x {r : R ρ} (h : SX p g r enc) : SB p g (r.bind fun y => .ok (.rt y)) P enc := fun e he => by
  have k := h e he
  cases r with
  | bad => exact .inl rfl
  | ex c => exact .inr (.inl ⟨c, rfl, k.ex⟩)
  | ok x => exact .inr (.inr (.inr ⟨x, rfl, k.ok⟩))
theorem sb_if {rc : R Bool} {r1 r2 : R (TF σ ρ)} (hc : SC p c rc) (h1 : SB p g1 r1 P enc) (h2 : SB p g2 r2 P enc) : SB p (sIf c g1 g2) (rc.bind fun b => if b then r1 else r2) P enc := fun e he => by
  have g := hc e he
  cases rc with
  | bad => exact .inl rfl
  | ex c' => exact .inr (.inl ⟨c', rfl, by show (c e).bind _ = _; rw [g.ex]; rfl⟩)
  | ok b =>
    cases b with
    | true =>
      have : sIf c g1 g2 e = g1 e := by show (c e).bind _ = _; rw [g.ok]; rfl
      rw [this]
      exact h1 e he
    | false =>
      have : sIf c g1 g2 e = g2 e := by show (c e).bind _ = _; rw [g.ok]; rfl
      rw [this]
      exact h2 e he
theorem for_sim {t : D → List D → Option (List D)} {P : σ → Pat} {Pt : σ → α → Pat} {st : σ → α → R (TF σ ρ)} (ht : ∀ s, TGs t ea (P s) (Pt s)) (hb : ∀ s x, SB (Pt s x) g (st s x) P enc) :
    ∀ (l : List α) (s : σ) (e : List D), EM (P s) e → forR st l s = .bad ∨ (∃ c, forR st l s = .ex c ∧ forL t g (l.map ea) e = .ex c) ∨ (∃ y e', forR st l s = .ok (.nx y) ∧ forL t g (l.map ea) e = .ok (.nx e') ∧ EM (P y) e') ∨ ∃ d, forR st l s = .ok (.rt d) ∧ forL t g (l.map ea) e = .ok (.rt (enc d))
  | [], s, e, he => .inr (.inr (.inl ⟨s, e, rfl, rfl, he⟩))
  | x :: l, s, e, he => by
    obtain ⟨e1, h1, h2⟩ := ht s x e he
    rw [List.map_cons, forL, h1, forR, ofO_some, R.bind_ok]
    rcases hb s x e1 h2 with h | ⟨c, h, k⟩ | ⟨y, e', h, k, m⟩ | ⟨d, h, k⟩
    · rw [h]; exact .inl rfl
    · rw [h, k]; exact .inr (.inl ⟨c, rfl, rfl⟩)
    · rw [h, k]
      exact for_sim ht hb l y e' m
    · rw [h, k]; exact .inr (.inr (.inr ⟨d, rfl, rfl⟩))
theorem sb_for {it : List D → R (List D)} {t : D → List D → Option (List D)} {rl : R (List α)} {P : σ → Pat} {Pt : σ → α → Pat} {st : σ → α → R (TF σ ρ)} (s0 : σ) (hi : SI p it rl ea) (h0 : PLe (P s0) p) (ht : ∀ s, TGs t ea (P s) (Pt s)) (hb : ∀ s x, SB (Pt s x) g (st s x) P enc) :
    SB p (sFor it t g) (rl.bind fun l => forR st l s0) P enc := fun e he => by
  have gi := hi e he
  cases rl with
  | bad => exact .inl rfl
  | ex c => exact .inr (.inl ⟨c, rfl, by show (it e).bind _ = _; rw [gi.ex]; rfl⟩)
  | ok l =>
    have : sFor it t g e = forL t g (l.map ea) e := by show (it e).bind _ = _; rw [gi.ok]; rfl
    rw [this]
    exact for_sim ht hb l s0 e (EM.le h0 he)
theorem for_simP {i j : Nat} {P : σ → Pat} {Pt : σ → α × β → Pat} {st : σ → α × β → R (TF σ ρ)} (ht : ∀ s x e, EM (P s) e → EM (Pt s x) ((e.set i (ea x.1)).set j (eb x.2))) (hb : ∀ s x, SB (Pt s x) g (st s x) P enc) :
    ∀ (l : List (α × β)) (s : σ) (e : List D), EM (P s) e → forR st l s = .bad ∨ (∃ c, forR st l s = .ex c ∧ forP i j g (l.map fun x => (ea x.1, eb x.2)) e = .ex c) ∨ (∃ y e', forR st l s = .ok (.nx y) ∧ forP i j g (l.map fun x => (ea x.1, eb x.2)) e = .ok (.nx e') ∧ EM (P y) e') ∨ ∃ d, forR st l s = .ok (.rt d) ∧ forP i j g (l.map fun x => (ea x.1, eb x.2)) e = .ok (.rt (enc d))
  | [], s, e, he => .inr (.inr (.inl ⟨s, e, rfl, rfl, he⟩))
  | x :: l, s, e, he => by
    have h2 := ht s x e he
    rw [List.map_cons, forP, forR]
    rcases hb s x _ h2 with h | ⟨c, h, k⟩ | ⟨y, e', h, k, m⟩ | ⟨d, h, k⟩
    · rw [h]; exact .inl rfl
    · rw [h, k]; exact .inr (.inl ⟨c, rfl, rfl⟩)
    · rw [h, k]
      exact for_simP ht hb l y e' m
    · rw [h, k]; exact .inr (.inr (.inr ⟨d, rfl, rfl⟩))
theorem sb_forP {it : List D → R (List (D × D))} {i j : Nat} {rl : R (List (α × β))} {P : σ → Pat} {Pt : σ → α × β → Pat} {st : σ → α × β → R (TF σ ρ)} (s0 : σ) (hi : SI2 p it rl ea eb) (h0 : PLe (P s0) p) (ht : ∀ s x e, EM (P s) e → EM (Pt s x) ((e.set i (ea x.1)).set j (eb x.2))) (hb : ∀ s x, SB (Pt s x) g (st s x) P enc) :
    SB p (sForP it i j g) (rl.bind fun l => forR st l s0) P enc := fun e he => by
  have gi := hi e he
  cases rl with
  | bad => exact .inl rfl
  | ex c => exact .inr (.inl ⟨c, rfl, by show (it e).bind _ = _; rw [gi.ex]; rfl⟩)
  | ok l =>
    have : sForP it i j g e = forP i j g (l.map fun x => (ea x.1, eb x.2)) e := by show (it e).bind _ = _; rw [gi.ok]; rfl
    rw [this]
    exact for_simP ht hb l s0 e (EM.le h0 he)
theorem tg_name {i : Nat} {P : Pat} {Pt : α → Pat} (hP : ∀ x, Pt x = P.set i (some (ea x)) := by intro _; rfl) : TGs (tgName i) ea P Pt := fun x e he => ⟨_, rfl, by rw [hP]; exact he.set i⟩
theorem run_x {n : Nat} {ds : List D} {r : R ρ} (h : SX p g r enc) (hp : EM p (ds ++ List.replicate (n - ds.length) .non)) : Ref (runF n g ds) (r.map enc) := by
  have k := h _ hp
  show Ref ((g _).bind _) _
  cases r with
  | bad => exact .inl rfl
  | ex c => rw [k.ex]; exact .inr rfl
  | ok x => rw [k.ok]; exact .inr rfl
theorem run_xr {n : Nat} {ds : List D} {r : R ρ} (h : SX p g r enc) (hp : EM p (ds ++ List.replicate (n - ds.length) .non)) : Ref (runFr n g ds) (r.map enc) := by
  have k := h _ hp
  show Ref ((g _).bind _) _
  cases r with
  | bad => exact .inl rfl
  | ex c => rw [k.ex]; exact .inr rfl
  | ok x => rw [k.ok]; exact .inr rfl
end
end L2.VL
namespace L2.VL
open PySem PySem.Spec PyProof.Rows
section
variable {p : Pat} {α β γ δ τ σ σ1 σ2 ρ : Type} {ea : α → D} {eb : β → D} {ec : γ → D} {enc : ρ → D} {f f' : List D → R D} {c : List D → R Bool} {g g1 g2 g3 : List D → R Fl} {P : σ → Pat} {P1 : σ1 → Pat} {P2 : σ2 → Pat}
theorem se_ixC {ra : R α} {k : Int} {h : α → R γ} (ha : SE p f ra ea) (hb : SP p f' (.int k)) (hk : ∀ x, Ref (atD (ea x) (.int k)) ((h x).map ec)) : SE p (eIx f f') (ra.bind h) ec := fun e he => by
  refine (ha e he).bind fun x => ?_
  rw [hb e he]
  exact hk x
def SOp (p : Pat) (f : List D → R (Option Int)) (o : Option Int) : Prop := ∀ e, EM p e → f e = .ok o
theorem sop_no : SOp p pNo none := fun _ _ => rfl
theorem sop_at {i : Int} (h : SP p f (.int i)) : SOp p (pAt f) (some i) := fun e he => by
  show (f e).bind _ = _
  rw [h e he]
  rfl
theorem SOp.so {f : List D → R (Option Int)} {o : Option Int} (h : SOp p f o) : SO p f (.ok o) := fun e he => .inr (h e he)
theorem sp_slL {m : Tg} {pl ph : List D → R (Option Int)} {l : List α} {lo hi : Option Int} (ha : SP p f (eL ea l)) (h1 : SOp p pl lo) (h2 : SOp p ph hi) (hc : cnOk m (l.map ea) = true) : SP p (eSlL m f pl ph) (eL ea (cutL l lo hi)) := fun e he => by
  show (f e).bind _ = _
  rw [ha e he]
  show (pl e).bind _ = _
  rw [h1 e he]
  show (ph e).bind _ = _
  rw [h2 e he, R.bind_ok, slD_lst, if_pos hc, cutL_map]
theorem se_slSp {pl ph : List D → R (Option Int)} {z : Str} {lo hi : Option Int} (ha : SP p f (.str z)) (h1 : SOp p pl lo) (h2 : SOp p ph hi) : SE p (eSlS f pl ph) (cutSR z lo hi) D.str := fun e he => by
  show Ref ((f e).bind _) _
  rw [ha e he]
  show Ref ((pl e).bind _) _
  rw [h1 e he]
  show Ref ((ph e).bind _) _
  rw [h2 e he, R.bind_ok, slS_str]
  exact ref_iteR rfl
theorem sn_app {i : Nat} {l : List α} {r : R α} {P : List α → Pat} (hg : p[i]? = some (some (.lst (l.map ea)))) (h : SE p f r ea) (hP : ∀ x, P x = p.set i (some (eL ea x)) := by intro _; rfl) : SN p (sOwn i gApp (aCons f aNil)) (r.bind fun x => appR l x) P := by
  have h1 := sa_consE h (sa_nilE (p := p))
  have h2 := sn_own (k := gApp) (P := P) hg h1 (T := fun t => appR l t.1) (fun t => k_app l t.1) hP
  intro e he
  rcases h2 e he with z | ⟨c, z, k⟩ | ⟨y, e', z, k, m⟩
  · refine .inl ?_
    rw [← z, R.bind_assoc]
    cases r <;> rfl
  · refine .inr (.inl ⟨c, ?_, k⟩)
    rw [← z, R.bind_assoc]
    cases r <;> rfl
  · refine .inr (.inr ⟨y, e', ?_, k, m⟩)
    rw [← z, R.bind_assoc]
    cases r <;> rfl
theorem sn_appP {i : Nat} {l : List α} {x : α} {P : List α → Pat} (hg : p[i]? = some (some (.lst (l.map ea)))) (h : SP p f (ea x)) (hP : ∀ x, P x = p.set i (some (eL ea x)) := by intro _; rfl) : SN p (sOwn i gApp (aCons f aNil)) (appR l x) P := sn_app (r := .ok x) hg h.se hP
def eqAR (a b : D) : R Bool := ofO (eqD a b)
theorem k_eqA (a b : D) : Ref (ofO (gEq a b)) ((eqAR a b).map D.bl) := .inr (by unfold gEq eqAR; rw [ofO_map])
def tryT {σ : Type} (cs : List Str) (s : R σ) (h : Str → R σ) : R σ := match s with
  | .ex c => if c ∈ cs then noX (h c) else .bad
  | .ok y => .ok y
  | .bad => .bad
end
end L2.VL
namespace L2.VL
open PySem PySem.Spec PyProof.Rows
section
variable {p : Pat} {α β γ : Type} {ea : α → D} {eb : β → D} {ec : γ → D} {f g : List D → R D}
theorem se_opC {k : D → D → Option D} {ra : R α} {d : D} {h : α → R γ} (ha : SE p f ra ea) (hb : SP p g d) (hk : ∀ x, Ref (ofO (k (ea x) d)) ((h x).map ec)) : SE p (eOp k f g) (ra.bind h) ec := fun e he => by
  refine (ha e he).bind fun x => ?_
  rw [hb e he]
  exact hk x
end
end L2.VL
namespace L2.VL
open PySem PySem.Spec PyProof.Rows
section
variable {p p' : Pat} {α ρ : Type} {ea : α → D} {g : List D → R Fl} {t : D → List D → Option (List D)} {Pt : α → Pat}
theorem TGs.le (h : PLe p' p) (k : TGs t ea p' Pt) : TGs t ea p Pt := fun x e he => k x e (EM.le h he)
theorem run_u {n : Nat} {ds : List D} {s : R Unit} {P : Unit → Pat} (h : SN p g s P) (hp : EM p (ds ++ List.replicate (n - ds.length) .non)) : Ref (runF n g ds) (s.map eU) := by
  show Ref ((g _).bind _) _
  rcases h _ hp with h | ⟨c, h, k⟩ | ⟨y, e', h, k, m⟩
  · subst h; exact .inl rfl
  · subst h; rw [k]; exact .inr rfl
  · subst h; rw [k]; exact .inr rfl
end
theorem M_of_T {M : List D → R D} {T : R Bool} {ds : List D} (h : Ref (M ds) (T.map D.bl)) (ht : T = .ok true) : M ds = .ok (.bl true) := by
  rw [ht] at h
  exact h.ok
end L2.VL
set_option Elab.async false
set_option linter.all false
set_option maxRecDepth 100000
set_option maxHeartbeats 4000000
namespace L2.VL
open PySem PySem.Spec PyProof.Rows
@[simp] def sUnp (t : D → List D → Option (List D)) (f : List D → R D) (e : List D) : R Fl := (f e).bind fun d => (ofO (t d e)).bind fun e1 => .ok (.nx e1)
section
variable {X : Cx} {G G1 : List Md} {W : WX} {rm : Rm} {pos : Pos} {tg a : Expr} {t : D → List D → Option (List D)} {f : List D → R D} {m : Pm} {is : List Nat}
theorem vs_unp (he : PE X a (vE (kf X) X.mg G W (pmT m) f)) (hg : PG X tg (vG (kf X) m is G G1 t)) (hs : swapsWithSole [tg] a pos.line X.env = pure false := by rfl) (hw : swappedStores [tg] a X.env = pure none := by rfl)
    (h1 : (assignEach [tg] X.env).map (·.2) = [assign tg X.env] := by rfl) : PS X (.Assign [tg] a pos) (vS (kf X) X.mg G G1 W rm (sUnp t f)) := by
  refine ps_weak (ps_asg he hg hs hw h1) fun Dn sg H ⟨B0, H0, B, e, S, k⟩ => ?_
  refine seq1 (P := KS (kf X) X.mg G1 W rm B0 H0 B Dn) S k (fun c k => ks_ex S k) (fun k => k) fun B1 H1 x d x1 S1 r1 k1 => ?_
  refine ⟨B0, H0, B1, e, d, S1, RepP.of r1, ?_⟩
  cases et : t d e with
  | none => rw [et] at k1; exact k1.elim
  | some e1 =>
    rw [et] at k1
    intro sg1 S2 _
    exact k1 sg1 B1 H1 S2 x1.b
end
section
variable {p : Pat} {α : Type} {ea : α → D} {f : List D → R D} {t : D → List D → Option (List D)} {P : α → Pat}
theorem sn_unp {r : R α} (h : SE p f r ea) (ht : TGs t ea p P) : SN p (sUnp t f) r P := fun e he => by
  have g := h e he
  cases r with
  | bad => exact .inl rfl
  | ex c => exact .inr (.inl ⟨c, rfl, by show (f e).bind _ = _; rw [g.ex]; rfl⟩)
  | ok x =>
    obtain ⟨e1, h1, h2⟩ := ht x e he
    exact .inr (.inr ⟨x, e1, rfl, by show (f e).bind _ = _; rw [g.ok]; show (ofO (t (ea x) e)).bind _ = _; rw [h1]; rfl, h2⟩)
end
def repS (x : Str) (n : Int) : Str := ⟨(List.replicate n.toNat x.cps).foldl (· ++ ·) #[]⟩
def mulSok (x : Str) (n : Int) : Prop := -(2 ^ 63) ≤ n ∧ n < 2 ^ 63 ∧ x.length * n.toNat ≤ sizeLine
instance (x : Str) (n : Int) : Decidable (mulSok x n) := by unfold mulSok; infer_instance
def gMulS : D → D → Option D
  | .str x, .int n => if mulSok x n then some (.str (repS x n)) else none
  | _, _ => none
@[simp] theorem gMulS_str (x : Str) (n : Int) : gMulS (.str x) (.int n) = if mulSok x n then some (.str (repS x n)) else none := rfl
theorem fold_app : ∀ (l : List (Array Nat)) (a : Array Nat), (l.foldl (· ++ ·) a).toList = a.toList ++ (l.map (·.toList)).flatten
  | [], a => by simp
  | b :: l, a => by
    rw [List.foldl_cons, fold_app l (a ++ b)]
    simp
theorem repS_list (x : Str) (n : Int) : (repS x n).cps.toList = (List.replicate n.toNat x.cps.toList).flatten := by
  show ((List.replicate n.toNat x.cps).foldl (· ++ ·) #[]).toList = _
  rw [fold_app, List.map_replicate]
  rfl
theorem str_ext {x y : Str} (h : x.cps.toList = y.cps.toList) : x = y := by
  obtain ⟨⟨a⟩⟩ := x
  obtain ⟨⟨b⟩⟩ := y
  cases (show a = b from h)
  rfl
def rMulS : R2 := fun x y H Q => ∃ a n, x = .str a ∧ y = .int n ∧ mulSok a n ∧ Q (.str (repS a n)) H
theorem op_mulS {X : Cx} : OpR X (binaryOp .Mult) rMulS := by
  intro pins s sg H x y v u Q I rx ry hh
  obtain ⟨a, n, rfl, rfl, ⟨h1, h2, h3⟩, q⟩ := hh
  obtain ⟨t, rfl⟩ := rx
  obtain ⟨t', rfl⟩ := ry
  refine P.mul_str (by rw [decide_eq_false (by omega), decide_eq_false (by omega)]; rfl) (fun g1 g2 => ?_) (fun g1 g2 => ?_) ?_
  · have hz : sizeLine = 16777216 := by decide
    rw [hz] at h3
    intro g
    have hn : (0 : Int) < n := by omega
    have h4 : ((2 ^ 63 - 1) / n + 1 : Int) ≤ (a.length : Int) := by omega
    have h5 : (2 ^ 63 - 1 : Int) < ((2 ^ 63 - 1) / n + 1) * n := by
      have := Int.lt_ediv_add_one_mul_self (2 ^ 63 - 1) hn
      exact this
    have h6 : ((2 ^ 63 - 1) / n + 1) * n ≤ (a.length : Int) * n := Int.mul_le_mul_of_nonneg_right h4 (by omega)
    have h7 : (a.length : Int) * n = ((a.length * n.toNat : Nat) : Int) := by
      rw [Int.natCast_mul]
      congr 1
      omega
    omega
  · exact decide_eq_false (by omega)
  · by_cases g1 : n < 1
    · rw [if_pos g1]
      refine ⟨by decide, ?_⟩
      have e : repS a n = Str.empty := by
        refine str_ext ?_
        rw [repS_list, show n.toNat = 0 by omega]
        rfl
      exact ⟨.str (repS a n), H, I.tok _, ⟨_, by rw [e]⟩, q⟩
    · rw [if_neg g1]
      by_cases g2 : (n == 1 || a.length == 0) = true
      · rw [if_pos g2]
        have e : repS a n = a := by
          refine str_ext ?_
          rw [repS_list]
          rw [Bool.or_eq_true, beq_iff_eq, beq_iff_eq] at g2
          rcases g2 with g2 | g2
          · rw [g2]
            simp
          · have : a.cps.toList = [] := List.eq_nil_of_length_eq_zero (by rw [Array.length_toList]; exact g2)
            rw [this]
            simp
        exact ⟨.str (repS a n), H, I, ⟨_, by rw [e]⟩, q⟩
      · rw [if_neg g2]
        refine ⟨?_, ⟨.str (repS a n), H, I.tok _, ⟨_, rfl⟩, q⟩⟩
        have e : (repS a n).length = a.length * n.toNat := by
          show (repS a n).cps.size = _
          rw [← Array.length_toList, repS_list, List.length_flatten, List.map_replicate, List.sum_replicate_nat, Array.length_toList, Nat.mul_comm]
          rfl
        show (repS a n).length ≤ sizeLine
        omega
theorem d_mulS {K : KFr} : Does2 K rMulS gMulS := by
  intro H x y d1 d2 d Q r1 r2 e q
  cases r1 with
  | str a =>
    cases r2 with
    | int n =>
      rw [gMulS_str] at e
      split at e
      · cases e
        exact ⟨a, n, rfl, rfl, by assumption, q _ fun _ => .str _⟩
      · cases e
    | _ => cases e
  | _ => cases e
def mulSR (x : Str) (n : Int) : R Str := if mulSok x n then .ok (repS x n) else .bad
theorem k_mulS (x : Str) (n : Int) : Ref (ofO (gMulS (.str x) (.int n))) ((mulSR x n).map D.str) := ref_ite
end L2.VL
set_option Elab.async false
set_option linter.all false
set_option maxRecDepth 100000
set_option maxHeartbeats 4000000
namespace L2.VL
open PySem PySem.Spec PyProof.Rows
def keyD : D → Option Key
  | .int i => some (.inl i)
  | .str x => some (.inr x)
  | _ => none
@[simp] theorem keyD_int (i : Int) : keyD (.int i) = some (.inl i) := rfl
@[simp] theorem keyD_str (x : Str) : keyD (.str x) = some (.inr x) := rfl
theorem key_rep {c : Bool} {K : KFr} {H : Hp} {v : V} {d : D} {k : Key} (r : Rep c K H v d) (h : keyD d = some k) : v = kV k := by
  cases r <;> first | (cases h; rfl) | cases h
def valD {κ α : Type} [DecidableEq κ] (kds : List (κ × α)) (k : κ) : Option α := (kds.find? fun kv => decide (kv.1 = k)).map (·.2)
def putD {κ α : Type} [DecidableEq κ] (kds : List (κ × α)) (k : κ) (v : α) : List (κ × α) := if kds.any (fun kv => decide (kv.1 = k)) then kds.map (fun kv => if kv.1 = k then (kv.1, v) else kv) else kds ++ [(k, v)]
section
variable {c : Bool} {K : KFr} {B : Hp}
theorem RepKs.length : ∀ {kvs : List (Key × V)} {kds : List (Key × D)}, RepKs c K B kvs kds → kvs.length = kds.length
  | _, _, .nil => rfl
  | _, _, .cons _ r => congrArg (· + 1) r.length
theorem RepKs.val (k : Key) : ∀ {kvs : List (Key × V)} {kds : List (Key × D)}, RepKs c K B kvs kds → (valV kvs k = none ∧ valD kds k = none) ∨ ∃ v d, valV kvs k = some v ∧ valD kds k = some d ∧ Rep c K B v d
  | _, _, .nil => .inl ⟨rfl, rfl⟩
  | _, _, .cons (k := k') (v := v) (d := d) (kvs := kvs) (kds := kds) h r => by
    by_cases e : k' = k
    · subst e
      exact .inr ⟨v, d, valV_pos rfl, by simp [valD], h⟩
    · have e1 : valV ((k', v) :: kvs) k = valV kvs k := valV_neg e
      have e2 : valD ((k', d) :: kds) k = valD kds k := by simp [valD, e]
      rw [e1, e2]
      exact RepKs.val k r
theorem RepKs.any (k : Key) : ∀ {kvs : List (Key × V)} {kds : List (Key × D)}, RepKs c K B kvs kds → (kvs.any fun kv => decide (kv.1 = k)) = kds.any fun kv => decide (kv.1 = k)
  | _, _, .nil => rfl
  | _, _, .cons _ r => by rw [List.any_cons, List.any_cons, RepKs.any k r]
theorem RepKs.repl {v : V} {d : D} (k : Key) (h : Rep c K B v d) : ∀ {kvs : List (Key × V)} {kds : List (Key × D)}, RepKs c K B kvs kds → RepKs c K B (kvs.map fun kv => if kv.1 = k then (kv.1, v) else kv) (kds.map fun kv => if kv.1 = k then (kv.1, d) else kv)
  | _, _, .nil => .nil
  | _, _, .cons (k := k') h' r => by
    rw [List.map_cons, List.map_cons]
    by_cases e : k' = k
    · rw [if_pos e, if_pos e]; exact .cons h (RepKs.repl k h r)
    · rw [if_neg e, if_neg e]; exact .cons h' (RepKs.repl k h r)
theorem RepKs.snoc {v : V} {d : D} (k : Key) (h : Rep c K B v d) : ∀ {kvs : List (Key × V)} {kds : List (Key × D)}, RepKs c K B kvs kds → RepKs c K B (kvs ++ [(k, v)]) (kds ++ [(k, d)])
  | _, _, .nil => .cons h .nil
  | _, _, .cons h' r => .cons h' (RepKs.snoc k h r)
theorem RepKs.put {v : V} {d : D} {kvs : List (Key × V)} {kds : List (Key × D)} (r : RepKs c K B kvs kds) (k : Key) (h : Rep c K B v d) : RepKs c K B (putK kvs k v) (putD kds k d) := by
  unfold putK putD
  rw [RepKs.any k r]
  split
  · exact r.repl k h
  · exact r.snoc k h
end
theorem RepT.dic_at {K : KFr} {H0 H B H' : Hp} {m : Tg} {v : V} {kds : List (Key × D)} (r : RepT K H0 H B H' m v (.dic kds)) (s : Same B H') (s0 : Same H0 H') :
    ∃ p kvs, v = .ref p ∧ Rd H' p (.dK kvs) ∧ ∀ k, (valV kvs k = none ∧ valD kds k = none) ∨ ∃ x d, valV kvs k = some x ∧ valD kds k = some d ∧ RepT K H0 H B H' (elT m) x d := by
  have fin : ∀ {c : Bool} {Bx : Hp} {a : Addr} {kvs : List (Key × V)}, Rd H' a (.dK kvs) → RepKs c K Bx kvs kds → (∀ x d, Rep c K Bx x d → RepT K H0 H B H' (elT m) x d) → ∃ p kvs, V.ref a = .ref p ∧ Rd H' p (.dK kvs) ∧ ∀ k, (valV kvs k = none ∧ valD kds k = none) ∨ ∃ x d, valV kvs k = some x ∧ valD kds k = some d ∧ RepT K H0 H B H' (elT m) x d := by
    intro c Bx a kvs h q f
    refine ⟨a, kvs, rfl, h, fun k => ?_⟩
    rcases q.val k with ⟨h1, h2⟩ | ⟨x, d, h1, h2, h3⟩
    · exact .inl ⟨h1, h2⟩
    · exact .inr ⟨x, d, h1, h2, f x d h3⟩
  cases m with
  | im =>
    cases (show Rep false K B v (.dic kds) from r) with
    | dic h q =>
      obtain ⟨o, h⟩ := h
      exact fin (same_rd s (.inr ⟨o, h⟩)) q fun x d z => z
    | dko z _ _ => cases z
  | ar =>
    cases (show Rep true K H0 v (.dic kds) from r) with
    | dic h q =>
      obtain ⟨o, h⟩ := h
      exact fin (same_rd s0 (.inr ⟨o, h⟩)) q fun x d z => z
    | dko _ h q => exact fin (same_rd s0 h) q fun x d z => z
  | lo =>
    cases (show Rep true K H' v (.dic kds) from r) with
    | dic h q =>
      obtain ⟨o, h⟩ := h
      exact fin (.inr ⟨o, h⟩) q fun x d z => z
    | dko _ h q => exact fin h q fun x d z => z
  | fr =>
    obtain ⟨p, rfl, _, _, kvs, h, q⟩ := r
    exact fin (.inl h) q fun x d z => z
  | oc =>
    obtain ⟨p, rfl, kvs, h, q⟩ := r
    exact fin (.inl h) q fun x d z => z
section
variable {X : Cx} {G : List Md} {W : WX} {pos : Pos} {o a b : Expr} {fo fa fb : List D → R D} {mo ma mb : Tg}
theorem ve_dnew : PE X (.Dict [] [] pos) (vE (kf X) X.mg G W .fr (eC (.dic []))) := by
  refine pe_weak pe_dnewK fun sg H Q ⟨B0, H0, B, e, S, k⟩ p hp => ?_
  exact k B _ _ (.newH S.ext.s hp) ⟨p, rfl, hp, S.ext.s.free hp, [], upd_same, .nil⟩
def dgetD : D → D → R D
  | .dic kds, k => (ofO (keyD k)).bind fun k => ofO (valD kds k)
  | _, _ => .bad
@[simp] theorem dgetD_dic (kds : List (Key × D)) (k : D) : dgetD (.dic kds) k = (ofO (keyD k)).bind fun k => ofO (valD kds k) := rfl
@[simp] def eDGet (fo fk : List D → R D) (e : List D) : R D := (fo e).bind fun d => (fk e).bind fun k => dgetD d k
theorem ve_dget (hu : X.A.units + 1 < cLine) (ho : PE X o (vE (kf X) X.mg G W mo fo)) (ha : PE X a (vE (kf X) X.mg G W ma fa)) (hs : NoSl a := by exact fun _ _ => rfl) : PE X (.Subscript o a pos) (vE (kf X) X.mg G W (elT mo) (eDGet fo fa)) := by
  refine pe_weak (pe_dget hu ho ha hs) fun sg H Q h => ?_
  refine seq2 (kk := fun d k => dgetD d k) h fun B0 H0 B e B2 H2 x y d1 d2 S S2 x2 r1 r2 k => ?_
  have s0 : Same H0 H2 := S2.ext.h
  have q2 := r2.all x2.s s0
  cases d1 with
  | dic kds =>
    rw [dgetD_dic] at k
    cases ek : keyD d2 with
    | none => rw [ek] at k; exact k.elim
    | some kk =>
      rw [ek] at k
      obtain ⟨p, kvs, rfl, hp, hv⟩ := r1.dic_at x2.s s0
      rcases hv kk with ⟨h1, h2⟩ | ⟨z, d, h1, h2, h3⟩
      · have k : KE (kf X) X.mg W sg H0 B H Q (elT mo) (ofO (valD kds kk)) := k
        rw [h2] at k; exact k.elim
      · have k : KE (kf X) X.mg W sg H0 B H Q (elT mo) (ofO (valD kds kk)) := k
        rw [h2] at k
        exact ⟨p, z, rfl, .inl ⟨kvs, kk, hp, key_rep q2 ek, h1.symm⟩, k B2 H2 z x2 h3⟩
  | _ => exact k.elim
def dinD (n : Bool) : D → D → R D
  | k, .dic kds => (ofO (keyD k)).bind fun k => .ok (.bl (n != (valD kds k).isSome))
  | _, _ => .bad
@[simp] theorem dinD_dic (n : Bool) (k : D) (kds : List (Key × D)) : dinD n k (.dic kds) = (ofO (keyD k)).bind fun k => .ok (.bl (n != (valD kds k).isSome)) := by cases k <;> rfl
end
def ownDAt (i : Nat) (e : List D) : R (List (Key × D)) := (ofO e[i]?).bind fun d => match d with | .dic kds => .ok kds | _ => .bad
def putR (kds : List (Key × D)) (k : D) (d : D) : R (List (Key × D)) := if kds.length < sizeLine then (ofO (keyD k)).bind fun k => .ok (putD kds k d) else .bad
@[simp] def sDPutV (i : Nat) (fk fv : List D → R D) (e : List D) : R Fl := (ownDAt i e).bind fun kds => (fv e).bind fun d => (fk e).bind fun k => (putR kds k d).bind fun kds' => .ok (.nx (e.set i (.dic kds')))
section
variable {X : Cx} {G : List Md} {W : WX} {rm : Rm} {spos pos pn : Pos} {a b : Expr} {fk fv : List D → R D} {i : Nat} {x : Str} {mk : Tg}
theorem ownD_get {K : KFr} {mg : Str → Option Value} {G' : List Md} {B0 H0 B H : Hp} {sg : St} {e : List D} {Dn : Ends} {kk : List (Key × D) → R Fl} (S : Sta K G B0 H0 sg e B H) (hG : G[i]? = some .ow) (k : KS K mg G' W rm B0 H0 B Dn ((ownDAt i e).bind kk)) :
    ∃ p kvs kds, sg[i]? = some (some (.ref p)) ∧ e[i]? = some (.dic kds) ∧ H p = some (.dK kvs) ∧ RepKs false K B kvs kds ∧ KS K mg G' W rm B0 H0 B Dn (kk kds) := by
  obtain ⟨v, d, h1, h2, h3⟩ := S.sl.get hG
  obtain ⟨p, rfl, hp0, hpb, ho⟩ := h3.own
  unfold ownDAt at k
  rw [h2] at k
  cases d with
  | dic kds =>
    obtain ⟨kvs, hh, hr⟩ := ho
    exact ⟨p, kvs, kds, h1, h2, hh, hr, k⟩
  | _ => exact k.elim
theorem vs_dput (hu : X.A.units + 1 < cLine) (hv0 : PE X b (vE (kf X) X.mg G W .im fv)) (hk : PE X a (vE (kf X) X.mg G W mk fk)) (hG : G[i]? = some .ow := by rfl) (hN : X.N[i]? = some x := by rfl)
    (hv : Vis X.env.scope x := by first | exact Or.inl rfl | exact Or.inr (Or.inl rfl) | exact Or.inr (Or.inr rfl)) (hdb : (x == ("__debug__" : Str)) = false := by decide) (hcd : (x == ("__classdict__" : Str)) = false := by decide)
    (hs : swapsWith b (some (.Subscript (.Name x pn) a pos)) spos.line X.env = pure false := by rfl) :
    PS X (.Assign [.Subscript (.Name x pn) a pos] b spos) (vS (kf X) X.mg G G W rm (sDPutV i fk fv)) := by
  refine ps_weak (ps_dput hu (pe_var hN hv hdb hcd) hk hv0 hs) fun Dn sg H ⟨B0, H0, B, e, S, k⟩ => ?_
  obtain ⟨p, kvs, kds, h1, h2, h3, h4, k⟩ := ownD_get S hG k
  refine seq1 (P := KS (kf X) X.mg G W rm B0 H0 B Dn) S k (fun c k => ks_ex S k) (fun k => k) fun B1 H1 v d x1 S1 r1 k1 => ?_
  refine ⟨.ref p, h1, ?_⟩
  refine seq1 (P := KS (kf X) X.mg G W rm B0 H0 B Dn) S1 k1 (fun c k => ks_ex S1 (KS.later k x1.b)) (fun k => k) fun B2 H2 y dk x2 S2 r2 k2 => ?_
  have ry := r2.all x2.s S2.ext.h
  unfold putR at k2
  by_cases hz : kds.length < sizeLine
  · rw [if_pos hz] at k2
    cases ek : keyD dk with
    | none => rw [ek] at k2; exact k2.elim
    | some kk =>
      rw [ek] at k2
      refine ⟨p, _, rfl, .inl ⟨kvs, kk, (x1.h.trans x2.h) _ _ h3, key_rep ry ek, by rw [h4.length]; exact hz, rfl⟩, ?_⟩
      have hr : RepKs false (kf X) B2 (putK kvs kk v) (putD kds kk d) := (h4.mono (x1.b.trans x2.b)).put kk (Rep.mono x2.b r1)
      exact k2 sg B2 _ (S2.mut hG h1 (show Own (kf X) B2 (upd H2 p (.dK (putK kvs kk v))) p (.dic (putD kds kk d)) from ⟨_, upd_same, hr⟩)) (x1.b.trans x2.b)
  · rw [if_neg hz] at k2; exact k2.elim
end
end L2.VL
set_option Elab.async false
set_option linter.all false
set_option maxRecDepth 100000
set_option maxHeartbeats 4000000
namespace L2.VL
open PySem PySem.Spec PyProof.Rows
structure KeyOk {κ : Type} (ek : κ → D) (g : κ → Key) : Prop where
  key : ∀ k, keyD (ek k) = some (g k)
  inj : ∀ a b, g a = g b → a = b
theorem key_S : KeyOk D.str Sum.inr := ⟨fun _ => rfl, fun a b h => by cases h; rfl⟩
section
variable {κ α β : Type} [DecidableEq κ] {ek : κ → D} {g : κ → Key} {f : α → D}
theorem valD_map (Ko : KeyOk ek g) (k : κ) : ∀ l : List (κ × α), valD (l.map fun p => (g p.1, f p.2)) (g k) = (valD l k).map f
  | [] => rfl
  | (k', v) :: l => by
    have ih := valD_map Ko k l
    unfold valD at ih ⊢
    rw [List.map_cons]
    by_cases e : k' = k
    · subst e
      simp
    · have e2 : ¬ g k' = g k := fun z => e (Ko.inj _ _ z)
      rw [List.find?_cons_of_neg (by simpa using e2), List.find?_cons_of_neg (by simpa using e)]
      exact ih
theorem any_map (Ko : KeyOk ek g) (k : κ) (l : List (κ × α)) : ((l.map fun p => (g p.1, f p.2)).any fun kv => decide (kv.1 = g k)) = l.any fun kv => decide (kv.1 = k) := by
  rw [List.any_map]
  congr 1
  funext p
  show decide (g p.1 = g k) = decide (p.1 = k)
  rw [decide_eq_decide]
  exact ⟨Ko.inj _ _, fun z => by rw [z]⟩
theorem putD_map (Ko : KeyOk ek g) (k : κ) (v : α) (l : List (κ × α)) : putD (l.map fun p => (g p.1, f p.2)) (g k) (f v) = (putD l k v).map fun p => (g p.1, f p.2) := by
  unfold putD
  rw [any_map Ko]
  split
  · rw [List.map_map, List.map_map]
    refine List.map_congr_left fun p _ => ?_
    show (if g p.1 = g k then (g p.1, f v) else (g p.1, f p.2)) = (fun q : κ × α => (g q.1, f q.2)) (if p.1 = k then (p.1, v) else p)
    by_cases e : p.1 = k
    · rw [if_pos (by rw [e]), if_pos e]
    · rw [if_neg (fun z => e (Ko.inj _ _ z)), if_neg e]
  · rw [List.map_append]
    rfl
def dgetR (l : List (κ × α)) (k : κ) : R α := ofO (valD l k)
def putN (l : List (κ × α)) (k : κ) (v : α) : R (List (κ × α)) := if l.length < sizeLine then .ok (putD l k v) else .bad
variable {p : Pat} {fo fk fv : List D → R D}
theorem k_dget (Ko : KeyOk ek g) (l : List (κ × α)) (k : κ) : Ref (dgetD (.dic (l.map fun p => (g p.1, f p.2))) (ek k)) ((dgetR l k).map f) := by
  rw [dgetD_dic, Ko.key]
  refine .inr ?_
  show ofO (valD _ (g k)) = _
  rw [valD_map Ko, ofO_map]
  rfl
theorem se_dgetP (Ko : KeyOk ek g) {l : List (κ × α)} {k : κ} (ho : SP p fo (.dic (l.map fun p => (g p.1, f p.2)))) (hk : SP p fk (ek k)) : SE p (eDGet fo fk) (dgetR l k) f := se_2p (k := fun d k => dgetD d k) (k_dget Ko l k) ho hk
theorem sn_dput (Ko : KeyOk ek g) {i : Nat} {l : List (κ × α)} {rv : R α} {rk : R κ} {P : List (κ × α) → Pat} (hg : p[i]? = some (some (.dic (l.map fun p => (g p.1, f p.2))))) (hv : SE p fv rv f) (hk : SE p fk rk ek) (hP : ∀ x, P x = p.set i (some (.dic (x.map fun p => (g p.1, f p.2)))) := by intro _; rfl) :
    SN p (sDPutV i fk fv) (rv.bind fun x => rk.bind fun k => putN l k x) P := fun e he => by
  have g1 := hv e he
  have g2 := hk e he
  have e1 : sDPutV i fk fv e = (fv e).bind fun d => (fk e).bind fun k => (putR (l.map fun p => (g p.1, f p.2)) k d).bind fun kds' => .ok (.nx (e.set i (.dic kds'))) := by
    show (ownDAt i e).bind _ = _
    unfold ownDAt
    rw [he.get hg]
    rfl
  rw [e1]
  cases rv with
  | bad => exact .inl rfl
  | ex c => exact .inr (.inl ⟨c, rfl, by rw [g1.ex]; rfl⟩)
  | ok x =>
    rw [g1.ok, R.bind_ok, R.bind_ok]
    cases rk with
    | bad => exact .inl rfl
    | ex c => exact .inr (.inl ⟨c, rfl, by rw [g2.ex]; rfl⟩)
    | ok k =>
      rw [g2.ok, R.bind_ok, R.bind_ok]
      unfold putR putN
      rw [List.length_map, Ko.key]
      by_cases hz : l.length < sizeLine
      · rw [if_pos hz, if_pos hz]
        refine .inr (.inr ⟨_, _, rfl, rfl, ?_⟩)
        rw [hP, putD_map Ko]
        exact he.set i
      · rw [if_neg hz, if_neg hz]; exact .inl rfl
end
end L2.VL
set_option Elab.async false
set_option linter.all false
set_option maxRecDepth 100000
set_option maxHeartbeats 4000000
namespace L2.VL
open PySem PySem.Spec PyProof.Rows
theorem FnOk.bad {P : Program} {w : World} {K : PySem.W.Frag} {mg : Str → Option Value} {base : Heap} {k : Nat} {f : Addr} {fd : FuncData} {ps : List Str} {ms : List Pm} {rm : Rm} :
    FnOk P w K mg base (L2.CX P w) k f fd ps (spF ⟨K, P, w⟩ mg ms rm fun _ => .bad) := by
  refine ⟨fun vs H Q E q => ?_, fun A outer s H args us vs Q E hr he hb hv q => ?_⟩
  · obtain ⟨_, _, _, _, h⟩ := q
    exact h.elim
  · obtain ⟨_, _, _, _, h⟩ := q
    exact h.elim
def isi2D (T1 T2 : String) (d : D) : Option Bool := match isTdc d with
  | true => none
  | false => match kitB (tyD d) T1 with
  | some true => some true
  | some false => kitB (tyD d) T2
  | none => none
@[simp] def eIsi2 (T1 T2 : String) (f : List D → R D) (e : List D) : R D := (f e).bind fun d => ofO ((isi2D T1 T2 d).map .bl)
section
variable {X : Cx} {G : List Md} {W : WX} {p p1 p2 pt pos : Pos} {a : Expr} {f : List D → R D} {m : Tg} {T1 T2 : Str} {N1 N2 : String} {kt : Nat}
theorem ve_isi2 (hm : X.mg "isinstance" = none) (hm1 : X.mg T1 = none) (hm2 : X.mg T2 = none) (hT1 : bootBuiltins T1 = some (.type N1)) (hT2 : bootBuiltins T2 = some (.type N2)) (ha : PE X a (vE (kf X) X.mg G W m f)) (hg : Gl X "isinstance" := by rfl) (hg1 : Gl X T1 := by rfl) (hg2 : Gl X T2 := by rfl)
    (hn1 : T1 ≠ "__name__" := by decide) (hn2 : T2 ≠ "__name__" := by decide) (hd1 : (T1 == ("__debug__" : Str)) = false := by decide) (hd2 : (T2 == ("__debug__" : Str)) = false := by decide)
    (he : starEach (a :: [.Tuple [.Name T1 p1, .Name T2 p2] kt pt]) X.env = (false, eval a X.env) :: starEach [.Tuple [.Name T1 p1, .Name T2 p2] kt pt] X.env := by rfl)
    (he2 : starEach [.Tuple [.Name T1 p1, .Name T2 p2] kt pt] X.env = (false, eval (.Tuple [.Name T1 p1, .Name T2 p2] kt pt) X.env) :: starEach [] X.env := by rfl)
    (he3 : starEach [.Name T1 p1, .Name T2 p2] X.env = (false, eval (.Name T1 p1) X.env) :: starEach [.Name T2 p2] X.env := by rfl) (he4 : starEach [.Name T2 p2] X.env = (false, eval (.Name T2 p2) X.env) :: starEach [] X.env := by rfl)
    (hpl : (backTo pos (starEach [.Tuple [.Name T1 p1, .Name T2 p2] kt pt] X.env)).any (·.1) = false := by rfl) :
    PE X (.Call (.Name "isinstance" p) [a, .Tuple [.Name T1 p1, .Name T2 p2] kt pt] [] pos) (vE (kf X) X.mg G W .im (eIsi2 N1 N2 f)) := by
  refine pe_weak (pe_callB call_isiT hg hm (by decide +kernel) (pa_cons ha (pa_cons (pe_tup (pa_cons (pe_bltn (v := .ty N1) hg1 hm1 hT1 rfl hn1 hd1) (pa_cons (pe_bltn (v := .ty N2) hg2 hm2 hT2 rfl hn2 hd2) pa_nil he4) he3)) pa_nil he2) he) (by decide) (by decide) he hpl) fun sg H Q ⟨B0, H0, B, e, S, k⟩ => ?_
  refine seq1 (P := KE (kf X) X.mg W sg H0 B H Q .im) S k (fun c k => k) (fun k => k) fun B1 H1 x d x1 S1 r1 k1 => ?_
  have r := r1.all x1.s S1.ext.h
  refine ⟨by show 2 ≤ sizeLine; decide, fun q hq => ?_⟩
  have x2 : Ext B1 H1 B1 (upd H1 q (.tup [.ty N1, .ty N2])) := .newH x1.s hq
  have r2 := Rep.mono x2.h r
  cases ei : isi2D N1 N2 d with
  | none => rw [ei] at k1; exact k1.elim
  | some b =>
    rw [ei] at k1
    unfold isi2D at ei
    cases ht : isTdc d with
    | true => rw [ht] at ei; cases ei
    | false =>
    rw [ht] at ei
    refine ⟨x, q, [.ty N1, .ty N2], _, [.type N1, .type N2], b, rfl, upd_same, .cons (.ty N1) (.cons (.ty N2) .nil), tyx_of r2 ht, ?_, k1 B1 _ _ (x1.trans x2) (.bl b)⟩
    cases e1 : kitB (tyD d) N1 with
    | none => rw [e1] at ei; cases ei
    | some b1 =>
      rw [e1] at ei
      have h1 : PySem.W.kitOne (kf X) (.type (tyD d)) (.type N1) = some b1 := kit_ty e1
      cases b1 with
      | true =>
        cases ei
        exact kitAny_cons h1 (fun z => nomatch z) fun _ => rfl
      | false =>
        have h2 : PySem.W.kitOne (kf X) (.type (tyD d)) (.type N2) = some b := kit_ty ei
        exact kitAny_cons h1 (fun _ => kitAny_cons h2 (fun z => by rw [z]; rfl) fun z => z) (fun z => nomatch z)
end
def isi2R (T1 T2 : String) (d : D) : R Bool := ofO (isi2D T1 T2 d)
section
variable {p : Pat} {α : Type} {ea : α → D} {f g : List D → R D}
theorem se_isi2 {T1 T2 : String} {r : R α} (ha : SE p f r ea) : SE p (eIsi2 T1 T2 f) (r.bind fun x => isi2R T1 T2 (ea x)) D.bl := se_1 (k := fun d => ofO ((isi2D T1 T2 d).map .bl)) (fun x => .inr (by unfold isi2R; rw [ofO_map])) ha
end
@[simp] def iZipA (f g : List D → R D) (e : List D) : R (List (D × D)) := (f e).bind fun d => (g e).bind fun d' => match d, d' with
  | .lst ds, .lst es => .ok (ds.zip es)
  | .tup ds, .tup es => .ok (ds.zip es)
  | _, _ => .bad
section
variable {X : Cx} {G : List Md} {W : WX} {a b : Expr} {f g : List D → R D} {m1 m2 : Pm} {p pos tpos : Pos} {elts : List Expr} {kk : Nat}
theorem pi_or {tg e : Expr} {t t' : TI} (h : PI X tg e t) (h' : PI X tg e t') : PI X tg e (fun sg H R => t sg H R ∨ t' sg H R) := ⟨fun pins s sg H Q I q => q.elim (h.run pins s sg H Q I) (h'.run pins s sg H Q I)⟩
theorem vi_zipA (hm : X.mg "zip" = none) (ha : PE X a (vE (kf X) X.mg G W (pmT m1) f)) (hb : PE X b (vE (kf X) X.mg G W (pmT m2) g)) (hg : Gl X "zip" := by rfl)
    (hs : starEach [a, b] X.env = (false, eval a X.env) :: starEach [b] X.env := by rfl) (hs2 : starEach [b] X.env = [(false, eval b X.env)] := by rfl) :
    PI X (.Tuple elts kk tpos) (.Call (.Name "zip" p) [a, b] [] pos) (vI2 (kf X) X.mg G W m1 m2 (iZipA f g)) := by
  refine pi_weak (pi_or (vi_zipL hm ha hb hg hs hs2) (vi_zipT hm ha hb hg hs hs2)) fun sg H Rr ⟨B0, H0, B, e, S, k⟩ => ?_
  cases ef : f e with
  | bad => unfold iZipA at k; rw [ef] at k; exact k.elim
  | ex c => exact .inl ⟨B0, H0, B, e, S, by unfold iZipA at k; rw [ef] at k; unfold iZipL; rw [ef]; exact k⟩
  | ok d =>
    cases eg : g e with
    | bad => unfold iZipA at k; rw [ef, R.bind_ok, eg] at k; exact k.elim
    | ex c => exact .inl ⟨B0, H0, B, e, S, by unfold iZipA at k; rw [ef, R.bind_ok, eg] at k; unfold iZipL; rw [ef, R.bind_ok, eg]; exact k⟩
    | ok d' =>
      unfold iZipA at k
      rw [ef, R.bind_ok, eg, R.bind_ok] at k
      split at k
      · exact .inl ⟨B0, H0, B, e, S, by unfold iZipL; rw [ef, R.bind_ok, eg]; exact k⟩
      · exact .inr ⟨B0, H0, B, e, S, by unfold iZipT; rw [ef, R.bind_ok, eg]; exact k⟩
      · exact k.elim
end
def zipAR (d d' : D) : R (List (D × D)) := match d, d' with
  | .lst ds, .lst es => .ok (ds.zip es)
  | .tup ds, .tup es => .ok (ds.zip es)
  | _, _ => .bad
def lenA (d : D) : R Int := match gLen [d] with
  | some (.int i) => .ok i
  | _ => .bad
section
variable {p : Pat} {α : Type} {ea : α → D} {f g : List D → R D}
theorem si_zipA {r r' : R D} (h : SE p f r eA) (h' : SE p g r' eA) : SI2 p (iZipA f g) (r.bind fun l => r'.bind fun k => zipAR l k) eA eA := fun e he => by
  have g1 := h e he
  have g2 := h' e he
  show Ref ((f e).bind _) _
  cases r with
  | bad => exact .inl rfl
  | ex c => rw [g1.ex]; exact .inr rfl
  | ok l =>
    rw [g1.ok, R.bind_ok]
    cases r' with
    | bad => exact .inl rfl
    | ex c => rw [g2.ex]; exact .inr rfl
    | ok k =>
      rw [g2.ok]
      show Ref (match eA l, eA k with | .lst ds, .lst es => R.ok (ds.zip es) | .tup ds, .tup es => R.ok (ds.zip es) | _, _ => R.bad) ((zipAR l k).map _)
      have e1 : ∀ xs : List (D × D), xs.map (fun x => (eA x.1, eA x.2)) = xs := fun xs => by
        conv => rhs; rw [← List.map_id xs]
        rfl
      unfold zipAR
      refine .inr ?_
      show (match l, k with | .lst ds, .lst es => R.ok (ds.zip es) | .tup ds, .tup es => R.ok (ds.zip es) | _, _ => R.bad) = _
      split <;> simp [e1]
theorem k_lenA (d : D) : Ref (ofO (gLen [eA d])) ((lenA d).map D.int) := by
  show Ref (ofO (gLen [d])) _
  unfold lenA
  cases e : gLen [d] with
  | none => exact .inl rfl
  | some x =>
    cases x with
    | int i => exact .inr rfl
    | _ => exact .inl rfl
end
end L2.VL
set_option Elab.async false
set_option linter.all false
set_option maxRecDepth 100000
set_option maxHeartbeats 4000000
namespace OD
open PySem PySem.Spec PyProof.Rows L2 L2.VL
def G_law_cell : List D → R Fl := (sSeq (sIf (tVal (eOp gLt (eVar 1) (eB gLen (aCons (eVar 0) aNil)))) (sRet (eFlat (eIx (eVar 0) (eVar 1)))) sNil) (sSeq (sAsg 2 (eOp gAdd (eC (.int 40009)) (eOp gMul (eOp gMul (eC (.int 613)) (eVar 1)) (eVar 1)))) (sSeq (sIf (tVal (eOp gGt (eB gLen (aCons (eVar 0) aNil)) (eC (.int 0)))) (sAsg 2 (eOp gAdd (eVar 2) (eOp gMul (eOp gMod (eIx (eVar 0) (eC (.int 0))) (eC (.int 99991))) (eOp gAdd (eVar 1) (eC (.int 3)))))) sNil) (sRet (eVar 2)))))
def M_law_cell : List D → R D := runF 3 (G_law_cell)
def T_law_cell (v_script : (List Int)) (v_k : Int) : R Int := ((R.ok (decide (v_k < (v_script.length : Int)))).bind fun b => if b then (atR v_script v_k) else ((R.ok ()).bind fun (_ : Unit) => R.ok ()).bind fun _ => (((R.ok (40009 : Int)).bind fun x => (mulR ((613 : Int) * v_k) v_k).bind fun y => R.ok (x + y)).bind fun (v_spare : Int) => (((R.ok (decide ((0 : Int) < (v_script.length : Int)))).bind fun b => if b then (((R.ok v_spare).bind fun x => (((atR v_script (0 : Int)).bind fun x => R.ok (x % (99991 : Int))).bind fun x => (R.ok (v_k + (3 : Int))).bind fun y => mulR x y).bind fun y => R.ok (x + y)).bind fun (v_spare : Int) => R.ok v_spare) else ((R.ok ()).bind fun (_ : Unit) => R.ok v_spare)).bind fun (v_spare : Int) => (R.ok v_spare))))
theorem sim_law_cell (v_script : (List Int)) (v_k : Int) : Ref (M_law_cell [(eL D.int) v_script, D.int v_k]) ((T_law_cell v_script v_k).map D.int) := by
  unfold M_law_cell
  exact run_x (n := 3) (p := [some ((eL D.int) v_script), some (D.int v_k), none]) (by unfold G_law_cell T_law_cell; exact (sx_ifT (SCp.sc (sc_val (sp_op (d := D.bl (decide (v_k < (v_script.length : Int)))) rfl (sp_var (i := 1)) (sp_b (d := D.int (v_script.length : Int)) (sa_cons (d := ((eL D.int) v_script)) (sp_var (i := 0)) sa_nil) (g_lenL _))))) (sx_ret (se_flat (se_ixP (ec := D.int) (k_atL v_script v_k) (sp_var (i := 0)) (sp_var (i := 1))))) (sn_yield (P := fun (_ : Unit) => [some ((eL D.int) v_script), some (D.int v_k), none]) sn_nil (fun (_ : Unit) => ()) (fun (_ : Unit) => by exact And.intro rfl (And.intro rfl (trivial)))) (fun _ => (sx_seq (sn_asg (i := 2) (ea := D.int) (P := fun (v_spare : Int) => [some ((eL D.int) v_script), some (D.int v_k), some (D.int v_spare)]) (se_op (ec := D.int) (h := fun (x : Int) (y : Int) => R.ok (x + y)) (fun x y => Ref.of (by first | rfl | (rw [rfl]; rfl))) (SP.se (ea := D.int) (x := (40009 : Int)) sp_c) (se_opP (ec := D.int) (k_mul ((613 : Int) * v_k) v_k) (sp_op (d := .int ((613 : Int) * v_k)) (g_mulL 613 v_k) sp_c (sp_var (i := 1))) (sp_var (i := 1))))) (fun (v_spare : Int) => (sx_seq (sn_if (SCp.sc (sc_val (sp_op (d := D.bl (decide ((0 : Int) < (v_script.length : Int)))) rfl (sp_b (d := D.int (v_script.length : Int)) (sa_cons (d := ((eL D.int) v_script)) (sp_var (i := 0)) sa_nil) (g_lenL _)) sp_c))) (sn_yield (P := fun (v_spare : Int) => [some ((eL D.int) v_script), some (D.int v_k), some (D.int v_spare)]) (sn_asg (i := 2) (ea := D.int) (P := fun (v_spare : Int) => [some ((eL D.int) v_script), some (D.int v_k), some (D.int v_spare)]) (se_op (ec := D.int) (h := fun (x : Int) (y : Int) => R.ok (x + y)) (fun x y => Ref.of (by first | rfl | (rw [rfl]; rfl))) (SP.se (ea := D.int) (x := v_spare) (sp_var (i := 2))) (se_op (ec := D.int) (h := fun x y => mulR x y) (fun x y => k_mul x y) (se_opC (ec := D.int) (h := fun x => R.ok (x % (99991 : Int))) (se_ixP (ec := D.int) (k_atL v_script (0 : Int)) (sp_var (i := 0)) sp_c) sp_c (fun x => Ref.of (by rw [g_modC x 99991]; rfl))) (SP.se (ea := D.int) (x := (v_k + (3 : Int))) (sp_op (d := D.int (v_k + (3 : Int))) rfl (sp_var (i := 1)) sp_c))))) (fun (v_spare : Int) => v_spare) (fun (v_spare : Int) => by exact And.intro rfl (And.intro rfl (And.intro rfl (trivial))))) (sn_yield (P := fun (v_spare : Int) => [some ((eL D.int) v_script), some (D.int v_k), some (D.int v_spare)]) sn_nil (fun (_ : Unit) => v_spare) (fun (_ : Unit) => by exact And.intro rfl (And.intro rfl (And.intro rfl (trivial)))))) (fun (v_spare : Int) => (sx_ret (SP.se (ea := D.int) (x := v_spare) (sp_var (i := 2))))))))))) (And.intro rfl (And.intro rfl (trivial)))
theorem mulR_ok {x y : Int} (h : IntMulOk x y) : mulR x y = .ok (x * y) := if_pos h
theorem divR_ok {x y : Int} (h : CDivP x y) : divR x y = .ok (x / y) := if_pos h
theorem modR_ok {x y : Int} (h : 0 < y) : modR x y = .ok (x % y) := if_pos h
theorem appR_ok {α : Type} {l : List α} {x : α} (h : l.length < sizeLine) : appR l x = .ok (l ++ [x]) := if_pos h
theorem catR_ok {α : Type} {a b : List α} (h : a.length + b.length ≤ sizeLine) : catR a b = .ok (a ++ b) := if_pos h
theorem fitN_ok {α : Type} {l : List α} (h : l.length ≤ sizeLine) : fitN l = .ok l := if_pos h
theorem sizeLine_eq : sizeLine = 16777216 := by decide
theorem rngR1_ok {j : Int} (h0 : -1000000000 ≤ j) (h1 : j ≤ 1000000000) : rngR1 j = .ok (rng 0 j) := if_pos ⟨by omega, by omega⟩
theorem atR_nat {α : Type} {l : List α} {k : Nat} {x : α} (h : l[k]? = some x) : atR l (k : Int) = .ok x := by unfold atR; rw [atI_nat h]; rfl
theorem atR_of {α : Type} {l : List α} {k : Int} {x : α} (h0 : 0 ≤ k) (h : l[k.toNat]? = some x) : atR l k = .ok x := by
  have := atR_nat (k := k.toNat) h
  rwa [show ((k.toNat : Nat) : Int) = k by omega] at this
theorem atR_ex {α : Type} {l : List α} {k : Int} (h0 : 0 ≤ k) (h1 : k < l.length) : ∃ x, x ∈ l ∧ l[k.toNat]? = some x ∧ atR l k = .ok x := by
  have hk : k.toNat < l.length := by omega
  exact ⟨l[k.toNat], List.getElem_mem hk, List.getElem?_eq_getElem hk, atR_of h0 (List.getElem?_eq_getElem hk)⟩
theorem cmpR_map {α β : Type} {g : α → R β} {f : α → β} : ∀ {l : List α}, (∀ x ∈ l, g x = .ok (f x)) → cmpR (fun _ => R.ok true) g l = .ok (l.map f)
  | [], _ => rfl
  | x :: xs, h => by
    rw [cmpR, h x (by simp), cmpR_map (l := xs) fun y hy => h y (by simp [hy])]
    rfl
theorem cmpR_filter {α β : Type} {c : α → R Bool} {g : α → R β} {p : α → Bool} {f : α → β} : ∀ {l : List α}, (∀ x ∈ l, c x = .ok (p x)) → (∀ x ∈ l, p x = true → g x = .ok (f x)) → cmpR c g l = .ok ((l.filter p).map f)
  | [], _, _ => rfl
  | x :: xs, h, h2 => by
    rw [cmpR, h x (by simp), cmpR_filter (l := xs) (fun y hy => h y (by simp [hy])) (fun y hy => h2 y (by simp [hy]))]
    cases e : p x with
    | true => rw [List.filter_cons_of_pos e, h2 x (by simp) e]; rfl
    | false => rw [List.filter_cons_of_neg (by rw [e]; decide)]; rfl
theorem cmpR_all {α β : Type} {g : α → R β} {Q : α → β → Prop} : ∀ {l : List α}, (∀ x ∈ l, ∃ y, g x = .ok y ∧ Q x y) → ∃ ys, cmpR (fun _ => R.ok true) g l = .ok ys ∧ ys.length = l.length ∧ ∀ (i : Nat) x y, l[i]? = some x → ys[i]? = some y → Q x y
  | [], _ => ⟨[], rfl, rfl, fun i x y h => by simp at h⟩
  | x :: xs, h => by
    obtain ⟨y, h1, h2⟩ := h x (by simp)
    obtain ⟨ys, h3, h4, h5⟩ := cmpR_all (l := xs) fun z hz => h z (by simp [hz])
    refine ⟨y :: ys, by rw [cmpR, h1, h3]; rfl, by simp [h4], fun i a b ha hb => ?_⟩
    cases i with
    | zero => cases ha; cases hb; exact h2
    | succ i => exact h5 i a b (by simpa using ha) (by simpa using hb)
theorem foldR_inv {σ α : Type} {f : σ → α → R σ} (I : List α → σ → Prop) : ∀ (l : List α) (s : σ), I l s → (∀ a l s, I (a :: l) s → ∃ s', f s a = .ok s' ∧ I l s') → ∃ s', foldR f l s = .ok s' ∧ I [] s'
  | [], s, h, _ => ⟨s, rfl, h⟩
  | a :: l, s, h, st => by
    obtain ⟨s', h1, h2⟩ := st a l s h
    obtain ⟨s'', h3, h4⟩ := foldR_inv I l s' h2 st
    exact ⟨s'', by rw [foldR, h1]; exact h3, h4⟩
theorem foldR_eq {σ α : Type} {f : σ → α → R σ} {g : σ → α → σ} : ∀ (l : List α) (s : σ), (∀ s a, a ∈ l → f s a = .ok (g s a)) → foldR f l s = .ok (l.foldl g s)
  | [], _, _ => rfl
  | a :: l, s, h => by
    rw [foldR, h s a (by simp), R.bind_ok, List.foldl_cons]
    exact foldR_eq l _ fun s b hb => h s b (by simp [hb])
def cell (ns : List Int) (k : Nat) : Int := match ns[k]? with
  | some z => z
  | none => 40009 + 613 * k * k + (match ns with | [] => 0 | x :: _ => x % 99991 * (k + 3))
theorem T_law_cell_nat (ns : List Int) (k : Nat) (h1 : k < 4294967296) : T_law_cell ns k = .ok (cell ns k) := by
  unfold T_law_cell cell
  cases e : ns[k]? with
  | some z =>
    have hk : k < ns.length := (List.getElem?_eq_some_iff.mp e).1
    have hk' : (k : Int) < (ns.length : Int) := by omega
    simp [hk, atR_nat e]
  | none =>
    have hk : ¬ k < ns.length := fun z => by rw [List.getElem?_eq_getElem z] at e; cases e
    have m2 : IntMulOk (613 * (k : Int)) (k : Int) := mulOk_right (by omega) (by omega)
    cases ns with
    | nil =>
      have hk0 : ¬ (k : Int) < 0 := by omega
      simp [mulR_ok m2, hk0]
    | cons x r =>
      have m3 : IntMulOk (x % 99991) ((k : Int) + 3) := mulOk_left (by omega) (by omega)
      have a0 : atR (x :: r) 0 = .ok x := atR_nat (k := 0) rfl
      have hk2 : ¬ k < r.length + 1 := by simpa using hk
      have hk3 : ¬ (k : Int) < (r.length : Int) + 1 := by omega
      have hp : (0 : Int) < (r.length : Int) + 1 := by omega
      simp [mulR_ok m2, mulR_ok m3, a0, hk3, hp]
theorem T_law_cell_eq (ns : List Int) {k : Int} (h0 : 0 ≤ k) (h1 : k < 4294967296) : T_law_cell ns k = .ok (cell ns k.toNat) := by
  have := T_law_cell_nat ns k.toNat (by omega)
  rwa [show ((k.toNat : Nat) : Int) = k by omega] at this
theorem neR_self {α : Type} [DecidableEq α] {f : α → D} {x : α} (h : plD 20 (f x) = true) : neR f x x = .ok false := by unfold neR; rw [h]; simp
theorem plL {α : Type} {f : α → D} {k : Nat} {l : List α} (h : ∀ x ∈ l, plD k (f x) = true) : plD (k + 1) (eL f l) = true := by
  show (l.map f).all (plD k) = true
  rw [List.all_eq_true]
  intro d hd
  obtain ⟨x, hx, rfl⟩ := List.mem_map.mp hd
  exact h x hx
theorem plI (k : Nat) (x : Int) : plD k (.int x) = true := plD_int k x
theorem cutL_take {α : Type} (xs : List α) {k : Int} (h : 0 ≤ k) : cutL xs none (some k) = xs.take k.toNat := by
  obtain ⟨m, rfl⟩ : ∃ m : Nat, k = m := ⟨k.toNat, by omega⟩
  rw [cutL_upto]
  rfl
theorem cutL_drop {α : Type} (xs : List α) {k : Int} (h : 0 ≤ k) : cutL xs (some k) none = xs.drop k.toNat := by
  obtain ⟨m, rfl⟩ : ∃ m : Nat, k = m := ⟨k.toNat, by omega⟩
  unfold cutL
  rw [HT.sIx_nat, HT.sIx_none, Int.toNat_natCast]
  by_cases h2 : m ≤ xs.length
  · rw [Nat.min_eq_left h2, List.take_of_length_le (by simp)]
  · have : xs.length ≤ m := by omega
    rw [Nat.min_eq_right this, List.drop_eq_nil_of_le this, List.drop_length]
    simp
end OD
set_option Elab.async false
set_option linter.all false
set_option maxRecDepth 100000
set_option maxHeartbeats 4000000
set_option synthInstance.maxSize 1000
set_option synthInstance.maxHeartbeats 400000
namespace OD
open PySem PySem.Spec PyProof.Rows L2 L2.VL
def G_is_word : List D → R Fl := (sSeq (sIf (tOrB (tVal (eOp gLt (eB gLen (aCons (eVar 0) aNil)) (eC (.int 1)))) (tVal (eOp gGt (eB gLen (aCons (eVar 0) aNil)) (eC (.int 8))))) (sRet (eC (.bl false))) sNil) (sSeq (sFor (iStrg (eVar 0)) (tgName 1) (sIf (tVal (eOp gNotInS (eVar 1) (eC (.str "abcdefghijklmnopqrstuvwxyz")))) (sRet (eC (.bl false))) sNil)) (sRet (eC (.bl true)))))
def M_is_word : List D → R D := runF 2 (G_is_word)
def T_is_word_b1  (s1 : Unit) (a2 : Str) : R (TF Unit Bool) := ((ninSR a2 ("abcdefghijklmnopqrstuvwxyz" : Str)).bind fun b => if b then ((R.ok false).bind fun y => R.ok (TF.rt y)) else ((((R.ok ()).bind fun (_ : Unit) => R.ok ()).bind fun (_ : Unit) => R.ok ()).bind fun y => R.ok (TF.nx y)))
def T_is_word (v_text : Str) : R Bool := ((((lenS v_text).bind fun x => (R.ok (1 : Int)).bind fun y => R.ok (decide (x < y))).bind fun a => if a then R.ok true else ((lenS v_text).bind fun x => (R.ok (8 : Int)).bind fun y => R.ok (decide (y < x)))).bind fun b => if b then (R.ok false) else ((R.ok ()).bind fun (_ : Unit) => R.ok ()).bind fun _ => ((((R.ok v_text).bind fun z => R.ok (sgns z)).bind fun l => forR T_is_word_b1 l ()).bind fun t => t.thx fun _ => (R.ok true)))
theorem sim_is_word (v_text : Str) : Ref (M_is_word [D.str v_text]) ((T_is_word v_text).map D.bl) := by
  unfold M_is_word
  exact run_x (n := 2) (p := [some (D.str v_text), none]) (by unfold G_is_word T_is_word; exact (sx_ifT (by exact (sc_orE (sc_valE (se_op (k := gLt) (ea := D.int) (eb := D.int) (ec := D.bl) (h := fun (x : Int) (y : Int) => R.ok (decide (x < y))) (fun x y => Ref.of rfl) (se_b (k := gLen) (ea := D.int) (sa_cons (d := (D.str v_text)) (sp_var (i := 0)) sa_nil) (k_lenS v_text)) (SP.se (ea := D.int) (x := (1 : Int)) sp_c))) (sc_valE (se_op (k := gGt) (ea := D.int) (eb := D.int) (ec := D.bl) (h := fun (x : Int) (y : Int) => R.ok (decide (y < x))) (fun x y => Ref.of rfl) (se_b (k := gLen) (ea := D.int) (sa_cons (d := (D.str v_text)) (sp_var (i := 0)) sa_nil) (k_lenS v_text)) (SP.se (ea := D.int) (x := (8 : Int)) sp_c))))) (sx_ret (by exact (SP.se (ea := D.bl) (x := false) sp_c))) (sn_yield (P := fun (_ : Unit) => [some (D.str v_text), none]) sn_nil (fun (_ : Unit) => ()) (fun (_ : Unit) => by exact And.intro rfl (trivial))) (fun _ => (sx_seqB (sb_for (P := fun (s1 : Unit) => [some (D.str v_text), none]) (Pt := fun (s1 : Unit) (a2 : Str) => [some (D.str v_text), some (D.str a2)]) (st := T_is_word_b1) () (si_str (SP.se (ea := D.str) (x := v_text) (sp_var (i := 0)))) (by exact And.intro rfl (trivial)) (fun _ => tg_name) (fun s1 a2 => by unfold T_is_word_b1; exact (sb_if (by exact (sc_valE (se_opP (k := gNotInS) (ec := D.bl) (k_ninS a2 ("abcdefghijklmnopqrstuvwxyz" : Str)) (sp_var (i := 1)) sp_c))) (sb_x (P := fun (s1 : Unit) => [some (D.str v_text), none]) (sx_ret (by exact (SP.se (ea := D.bl) (x := false) sp_c)))) (sb_n (sn_yield (P := fun (s1 : Unit) => [some (D.str v_text), none]) (sn_yield (P := fun (_ : Unit) => [some (D.str v_text), some (D.str a2)]) sn_nil (fun (_ : Unit) => ()) (fun (_ : Unit) => by exact And.intro rfl (And.intro rfl (trivial)))) (fun (_ : Unit) => ()) (fun (_ : Unit) => by exact And.intro rfl (trivial))))))) (fun _ => (sx_ret (by exact (SP.se (ea := D.bl) (x := true) sp_c)))))))) (And.intro rfl (trivial))
def G_names_of : List D → R Fl := (sRet (eAsT .fr (eComp (iTupl (eVar 0)) (tgName 1) tTrue (eIx (eVar 1) (eC (.int 0))))))
def M_names_of : List D → R D := runF 2 (G_names_of)
def T_names_of (v_net : (List (Str × (List Str) × (List Str) × Int × (List (List Int))))) : R (List Str) := ((R.ok v_net).bind fun l => (cmpR (fun (a1 : (Str × (List Str) × (List Str) × Int × (List (List Int)))) => (R.ok true)) (fun (a1 : (Str × (List Str) × (List Str) × Int × (List (List Int)))) => (R.ok a1.1)) l).bind fitN)
theorem sim_names_of (v_net : (List (Str × (List Str) × (List Str) × Int × (List (List Int))))) : Ref (M_names_of [(eT (e5 D.str (eT D.str) (eT D.str) D.int (eT (eT D.int)))) v_net]) ((T_names_of v_net).map (eT D.str)) := by
  unfold M_names_of
  exact run_x (n := 2) (p := [some ((eT (e5 D.str (eT D.str) (eT D.str) D.int (eT (eT D.int)))) v_net), none]) (by unfold G_names_of T_names_of; exact (sx_ret (by exact (se_asT (ea := D.str) (se_comp (Pt := fun (a1 : (Str × (List Str) × (List Str) × Int × (List (List Int)))) => [some ((eT (e5 D.str (eT D.str) (eT D.str) D.int (eT (eT D.int)))) v_net), some ((e5 D.str (eT D.str) (eT D.str) D.int (eT (eT D.int))) a1)]) (si_tup (ea := (e5 D.str (eT D.str) (eT D.str) D.int (eT (eT D.int)))) (SP.se (ea := (eT (e5 D.str (eT D.str) (eT D.str) D.int (eT (eT D.int))))) (x := v_net) (sp_var (i := 0)))) (TGs.le (p' := [some ((eT (e5 D.str (eT D.str) (eT D.str) D.int (eT (eT D.int)))) v_net), none]) ((show PLe [some ((eT (e5 D.str (eT D.str) (eT D.str) D.int (eT (eT D.int)))) v_net), none] _ by exact And.intro rfl (trivial))) tg_name) (fun a1 => (by exact (SCp.sc sc_true))) (fun a1 => (by exact (SP.se (ea := D.str) (x := a1.1) (sp_ix (d := D.str a1.1) rfl (sp_var (i := 1)) sp_c))))) (fun _ => rfl))))) (And.intro rfl (trivial))
def G_entry_of : List D → R Fl := (sSeq (sFor (iTupl (eVar 0)) (tgName 2) (sIf (tVal (eOp gEq (eIx (eVar 2) (eC (.int 0))) (eVar 1))) (sRet (eVar 2)) sNil)) (sRaise "NoName"))
def M_entry_of : List D → R D := runF 3 (G_entry_of)
def T_entry_of_b1 (v_name : Str) (s1 : Unit) (a2 : (Str × (List Str) × (List Str) × Int × (List (List Int)))) : R (TF Unit (Str × (List Str) × (List Str) × Int × (List (List Int)))) := ((R.ok (decide (a2.1 = v_name))).bind fun b => if b then ((R.ok a2).bind fun y => R.ok (TF.rt y)) else ((((R.ok ()).bind fun (_ : Unit) => R.ok ()).bind fun (_ : Unit) => R.ok ()).bind fun y => R.ok (TF.nx y)))
def T_entry_of (v_net : (List (Str × (List Str) × (List Str) × Int × (List (List Int))))) (v_name : Str) : R (Str × (List Str) × (List Str) × Int × (List (List Int))) := (((R.ok v_net).bind fun l => forR (T_entry_of_b1 v_name) l ()).bind fun t => t.thx fun _ => (R.ex "NoName"))
theorem sim_entry_of (v_net : (List (Str × (List Str) × (List Str) × Int × (List (List Int))))) (v_name : Str) : Ref (M_entry_of [(eT (e5 D.str (eT D.str) (eT D.str) D.int (eT (eT D.int)))) v_net, D.str v_name]) ((T_entry_of v_net v_name).map (e5 D.str (eT D.str) (eT D.str) D.int (eT (eT D.int)))) := by
  unfold M_entry_of
  exact run_x (n := 3) (p := [some ((eT (e5 D.str (eT D.str) (eT D.str) D.int (eT (eT D.int)))) v_net), some (D.str v_name), none]) (by unfold G_entry_of T_entry_of; exact (sx_seqB (sb_for (P := fun (s1 : Unit) => [some ((eT (e5 D.str (eT D.str) (eT D.str) D.int (eT (eT D.int)))) v_net), some (D.str v_name), none]) (Pt := fun (s1 : Unit) (a2 : (Str × (List Str) × (List Str) × Int × (List (List Int)))) => [some ((eT (e5 D.str (eT D.str) (eT D.str) D.int (eT (eT D.int)))) v_net), some (D.str v_name), some ((e5 D.str (eT D.str) (eT D.str) D.int (eT (eT D.int))) a2)]) (st := (T_entry_of_b1 v_name)) () (si_tup (ea := (e5 D.str (eT D.str) (eT D.str) D.int (eT (eT D.int)))) (SP.se (ea := (eT (e5 D.str (eT D.str) (eT D.str) D.int (eT (eT D.int))))) (x := v_net) (sp_var (i := 0)))) (by exact And.intro rfl (And.intro rfl (trivial))) (fun _ => tg_name) (fun s1 a2 => by unfold T_entry_of_b1; exact (sb_if (by exact (SCp.sc (sc_val (sp_op (k := gEq) (d := D.bl (decide (a2.1 = v_name))) rfl (sp_ix (d := D.str a2.1) rfl (sp_var (i := 2)) sp_c) (sp_var (i := 1)))))) (sb_x (P := fun (s1 : Unit) => [some ((eT (e5 D.str (eT D.str) (eT D.str) D.int (eT (eT D.int)))) v_net), some (D.str v_name), none]) (sx_ret (by exact (SP.se (ea := (e5 D.str (eT D.str) (eT D.str) D.int (eT (eT D.int)))) (x := a2) (sp_var (i := 2)))))) (sb_n (sn_yield (P := fun (s1 : Unit) => [some ((eT (e5 D.str (eT D.str) (eT D.str) D.int (eT (eT D.int)))) v_net), some (D.str v_name), none]) (sn_yield (P := fun (_ : Unit) => [some ((eT (e5 D.str (eT D.str) (eT D.str) D.int (eT (eT D.int)))) v_net), some (D.str v_name), some ((e5 D.str (eT D.str) (eT D.str) D.int (eT (eT D.int))) a2)]) sn_nil (fun (_ : Unit) => ()) (fun (_ : Unit) => by exact And.intro rfl (And.intro rfl (And.intro rfl (trivial))))) (fun (_ : Unit) => ()) (fun (_ : Unit) => by exact And.intro rfl (And.intro rfl (trivial)))))))) (fun _ => sx_raise))) (And.intro rfl (And.intro rfl (trivial)))
def G_values_of : List D → R Fl := (sRet (eIx (eCall M_entry_of (aCons (eVar 0) (aCons (eVar 1) aNil))) (eC (.int 1))))
def M_values_of : List D → R D := runF 2 (G_values_of)
def T_values_of (v_net : (List (Str × (List Str) × (List Str) × Int × (List (List Int))))) (v_name : Str) : R (List Str) := ((T_entry_of v_net v_name).bind fun x => R.ok x.2.1)
theorem sim_values_of (v_net : (List (Str × (List Str) × (List Str) × Int × (List (List Int))))) (v_name : Str) : Ref (M_values_of [(eT (e5 D.str (eT D.str) (eT D.str) D.int (eT (eT D.int)))) v_net, D.str v_name]) ((T_values_of v_net v_name).map (eT D.str)) := by
  unfold M_values_of
  exact run_x (n := 2) (p := [some ((eT (e5 D.str (eT D.str) (eT D.str) D.int (eT (eT D.int)))) v_net), some (D.str v_name)]) (by unfold G_values_of T_values_of; exact (sx_ret (by exact (se_ixC (ea := (e5 D.str (eT D.str) (eT D.str) D.int (eT (eT D.int)))) (ec := (eT D.str)) (k := 1) (h := fun x => R.ok x.2.1) (se_call (sa_cons (d := ((eT (e5 D.str (eT D.str) (eT D.str) D.int (eT (eT D.int)))) v_net)) (sp_var (i := 0)) (sa_cons (d := (D.str v_name)) (sp_var (i := 1)) sa_nil)) (sim_entry_of v_net v_name)) sp_c (fun _ => .inr rfl))))) (And.intro rfl (And.intro rfl (trivial)))
def G_once_each : List D → R Fl := (sForP (iEnumL (eVar 0)) 1 2 (sIf (tVal (eOp gIn (eVar 2) (eSlL .ar (eVar 0) pNo (pAt (eVar 1))))) (sRaise "Twice") sNil))
def M_once_each : List D → R D := runF 3 (G_once_each)
def T_once_each_b1 (v_some : (List Str)) (s1 : Unit) (a2 : (Int × Str)) : R Unit := (((R.ok (decide (a2.2 ∈ (cutL v_some none (some a2.1))))).bind fun b => if b then (R.ex "Twice") else ((R.ok ()).bind fun (_ : Unit) => R.ok ())).bind fun (_ : Unit) => R.ok ())
def T_once_each (v_some : (List Str)) : R Unit := ((((R.ok v_some).bind fun l => R.ok (enumN l)).bind fun l => foldR (T_once_each_b1 v_some) l ()).bind fun (_ : Unit) => R.ok ())
theorem sim_once_each (v_some : (List Str)) : Ref (M_once_each [(eL D.str) v_some]) ((T_once_each v_some).map eU) := by
  unfold M_once_each
  exact run_u (n := 3) (p := [some ((eL D.str) v_some), none, none]) (by unfold G_once_each T_once_each; exact (sn_yield (P := fun (_ : Unit) => [none, none, none]) (sn_forP (P := fun (s1 : Unit) => [some ((eL D.str) v_some), none, none]) (Pt := fun (s1 : Unit) (a2 : (Int × Str)) => [some ((eL D.str) v_some), some (D.int a2.1), some (D.str a2.2)]) (st := (T_once_each_b1 v_some)) () (si_enum (SP.se (ea := (eL D.str)) (x := v_some) (sp_var (i := 0)))) (by exact And.intro rfl (trivial)) (fun _ _ _ he => (he.set 1).set 2) (fun s1 a2 => by unfold T_once_each_b1; exact (sn_yield (P := fun (s1 : Unit) => [some ((eL D.str) v_some), none, none]) (sn_if (by exact (SCp.sc (sc_val (sp_op (k := gIn) (d := D.bl (decide (a2.2 ∈ (cutL v_some none (some a2.1))))) (g_inL flt_str _ _) (sp_var (i := 2)) (sp_slL (l := v_some) (sp_var (i := 0)) sop_no (sop_at (sp_var (i := 1))) (cn_flt flt_str .ar _)))))) (sn_raise (P := fun (_ : Unit) => [some ((eL D.str) v_some), some (D.int a2.1), some (D.str a2.2)])) (sn_yield (P := fun (_ : Unit) => [some ((eL D.str) v_some), some (D.int a2.1), some (D.str a2.2)]) sn_nil (fun (_ : Unit) => ()) (fun (_ : Unit) => by exact And.intro rfl (And.intro rfl (And.intro rfl (trivial)))))) (fun (_ : Unit) => ()) (fun (_ : Unit) => by exact And.intro rfl (trivial))))) (fun (_ : Unit) => ()) (fun (_ : Unit) => by exact trivial))) (And.intro rfl (trivial))
def G_look_at_values : List D → R Fl := (sSeq (sIf (tOrB (tVal (eOp gLt (eB gLen (aCons (eVar 0) aNil)) (eC (.int 2)))) (tVal (eOp gGt (eB gLen (aCons (eVar 0) aNil)) (eC (.int 4))))) (sRaise "WrongSize") sNil) (sSeq (sFor (iLst (eVar 0)) (tgName 1) (sIf (tNotB (tVal (eCall M_is_word (aCons (eFlat (eVar 1)) aNil)))) (sRaise "NoWord") sNil)) (sDrop (eCall M_once_each (aCons (eVar 0) aNil)))))
def M_look_at_values : List D → R D := runF 2 (G_look_at_values)
def T_look_at_values_b1  (s1 : Unit) (a2 : Str) : R Unit := ((((T_is_word a2).bind fun b => R.ok (!b)).bind fun b => if b then (R.ex "NoWord") else ((R.ok ()).bind fun (_ : Unit) => R.ok ())).bind fun (_ : Unit) => R.ok ())
def T_look_at_values (v_values : (List Str)) : R Unit := (((R.ok ((decide ((v_values.length : Int) < (2 : Int))) || (decide ((4 : Int) < (v_values.length : Int))))).bind fun b => if b then (R.ex "WrongSize") else ((R.ok ()).bind fun (_ : Unit) => R.ok ())).bind fun _ => (((R.ok v_values).bind fun l => foldR T_look_at_values_b1 l ()).bind fun _ => (((T_once_each v_values).bind fun _ => R.ok ()).bind fun (_ : Unit) => R.ok ())))
theorem sim_look_at_values (v_values : (List Str)) : Ref (M_look_at_values [(eL D.str) v_values]) ((T_look_at_values v_values).map eU) := by
  unfold M_look_at_values
  exact run_u (n := 2) (p := [some ((eL D.str) v_values), none]) (by unfold G_look_at_values T_look_at_values; exact (sn_seq (sn_if (by exact (SCp.sc (sc_or (sc_val (sp_op (k := gLt) (d := D.bl (decide ((v_values.length : Int) < (2 : Int)))) rfl (sp_b (k := gLen) (d := D.int (v_values.length : Int)) (sa_cons (d := ((eL D.str) v_values)) (sp_var (i := 0)) sa_nil) (g_lenL _)) sp_c)) (sc_val (sp_op (k := gGt) (d := D.bl (decide ((4 : Int) < (v_values.length : Int)))) rfl (sp_b (k := gLen) (d := D.int (v_values.length : Int)) (sa_cons (d := ((eL D.str) v_values)) (sp_var (i := 0)) sa_nil) (g_lenL _)) sp_c))))) (sn_raise (P := fun (_ : Unit) => [some ((eL D.str) v_values), none])) (sn_yield (P := fun (_ : Unit) => [some ((eL D.str) v_values), none]) sn_nil (fun (_ : Unit) => ()) (fun (_ : Unit) => by exact And.intro rfl (trivial)))) (fun _ => (sn_seq (sn_for (P := fun (s1 : Unit) => [some ((eL D.str) v_values), none]) (Pt := fun (s1 : Unit) (a2 : Str) => [some ((eL D.str) v_values), some (D.str a2)]) (st := T_look_at_values_b1) () (si_lst (ea := D.str) (SP.se (ea := (eL D.str)) (x := v_values) (sp_var (i := 0)))) (by exact And.intro rfl (trivial)) (fun _ => tg_name) (fun s1 a2 => by unfold T_look_at_values_b1; exact (sn_yield (P := fun (s1 : Unit) => [some ((eL D.str) v_values), none]) (sn_if (by exact (sc_notE (sc_valE (se_call (sa_cons (d := (D.str a2)) (sp_flat (sp_var (i := 1))) sa_nil) (sim_is_word a2))))) (sn_raise (P := fun (_ : Unit) => [some ((eL D.str) v_values), some (D.str a2)])) (sn_yield (P := fun (_ : Unit) => [some ((eL D.str) v_values), some (D.str a2)]) sn_nil (fun (_ : Unit) => ()) (fun (_ : Unit) => by exact And.intro rfl (And.intro rfl (trivial))))) (fun (_ : Unit) => ()) (fun (_ : Unit) => by exact And.intro rfl (trivial))))) (fun _ => (sn_yield (P := fun (_ : Unit) => [none, none]) (sn_drop (by exact (se_call (sa_cons (d := ((eL D.str) v_values)) (sp_var (i := 0)) sa_nil) (sim_once_each v_values)))) (fun (_ : Unit) => ()) (fun (_ : Unit) => by exact trivial))))))) (And.intro rfl (trivial))
def G_look_at_elders : List D → R Fl := (sSeq (sIf (tVal (eOp gGt (eB gLen (aCons (eVar 1) aNil)) (eC (.int 3)))) (sRaise "WrongSize") sNil) (sSeq (sFor (iLst (eVar 1)) (tgName 2) (sIf (tVal (eOp gNotIn (eVar 2) (eCall M_names_of (aCons (eVar 0) aNil)))) (sRaise "NoElder") sNil)) (sDrop (eCall M_once_each (aCons (eVar 1) aNil)))))
def M_look_at_elders : List D → R D := runF 3 (G_look_at_elders)
def T_look_at_elders_b1 (v_net : (List (Str × (List Str) × (List Str) × Int × (List (List Int))))) (s1 : Unit) (a2 : Str) : R Unit := ((((R.ok a2).bind fun x => (T_names_of v_net).bind fun y => R.ok (!decide (x ∈ y))).bind fun b => if b then (R.ex "NoElder") else ((R.ok ()).bind fun (_ : Unit) => R.ok ())).bind fun (_ : Unit) => R.ok ())
def T_look_at_elders (v_net : (List (Str × (List Str) × (List Str) × Int × (List (List Int))))) (v_elders : (List Str)) : R Unit := (((R.ok (decide ((3 : Int) < (v_elders.length : Int)))).bind fun b => if b then (R.ex "WrongSize") else ((R.ok ()).bind fun (_ : Unit) => R.ok ())).bind fun _ => (((R.ok v_elders).bind fun l => foldR (T_look_at_elders_b1 v_net) l ()).bind fun _ => (((T_once_each v_elders).bind fun _ => R.ok ()).bind fun (_ : Unit) => R.ok ())))
theorem sim_look_at_elders (v_net : (List (Str × (List Str) × (List Str) × Int × (List (List Int))))) (v_elders : (List Str)) : Ref (M_look_at_elders [(eT (e5 D.str (eT D.str) (eT D.str) D.int (eT (eT D.int)))) v_net, (eL D.str) v_elders]) ((T_look_at_elders v_net v_elders).map eU) := by
  unfold M_look_at_elders
  exact run_u (n := 3) (p := [some ((eT (e5 D.str (eT D.str) (eT D.str) D.int (eT (eT D.int)))) v_net), some ((eL D.str) v_elders), none]) (by unfold G_look_at_elders T_look_at_elders; exact (sn_seq (sn_if (by exact (SCp.sc (sc_val (sp_op (k := gGt) (d := D.bl (decide ((3 : Int) < (v_elders.length : Int)))) rfl (sp_b (k := gLen) (d := D.int (v_elders.length : Int)) (sa_cons (d := ((eL D.str) v_elders)) (sp_var (i := 1)) sa_nil) (g_lenL _)) sp_c)))) (sn_raise (P := fun (_ : Unit) => [some ((eT (e5 D.str (eT D.str) (eT D.str) D.int (eT (eT D.int)))) v_net), some ((eL D.str) v_elders), none])) (sn_yield (P := fun (_ : Unit) => [some ((eT (e5 D.str (eT D.str) (eT D.str) D.int (eT (eT D.int)))) v_net), some ((eL D.str) v_elders), none]) sn_nil (fun (_ : Unit) => ()) (fun (_ : Unit) => by exact And.intro rfl (And.intro rfl (trivial))))) (fun _ => (sn_seq (sn_for (P := fun (s1 : Unit) => [some ((eT (e5 D.str (eT D.str) (eT D.str) D.int (eT (eT D.int)))) v_net), some ((eL D.str) v_elders), none]) (Pt := fun (s1 : Unit) (a2 : Str) => [some ((eT (e5 D.str (eT D.str) (eT D.str) D.int (eT (eT D.int)))) v_net), some ((eL D.str) v_elders), some (D.str a2)]) (st := (T_look_at_elders_b1 v_net)) () (si_lst (ea := D.str) (SP.se (ea := (eL D.str)) (x := v_elders) (sp_var (i := 1)))) (by exact And.intro rfl (And.intro rfl (trivial))) (fun _ => tg_name) (fun s1 a2 => by unfold T_look_at_elders_b1; exact (sn_yield (P := fun (s1 : Unit) => [some ((eT (e5 D.str (eT D.str) (eT D.str) D.int (eT (eT D.int)))) v_net), some ((eL D.str) v_elders), none]) (sn_if (by exact (sc_valE (se_op (k := gNotIn) (ea := D.str) (eb := (eT D.str)) (ec := D.bl) (h := fun (x : Str) (y : (List Str)) => R.ok (!decide (x ∈ y))) (fun x y => Ref.of (congrArg ofO (g_ninT flt_str _ _))) (SP.se (ea := D.str) (x := a2) (sp_var (i := 2))) (se_call (sa_cons (d := ((eT (e5 D.str (eT D.str) (eT D.str) D.int (eT (eT D.int)))) v_net)) (sp_var (i := 0)) sa_nil) (sim_names_of v_net))))) (sn_raise (P := fun (_ : Unit) => [some ((eT (e5 D.str (eT D.str) (eT D.str) D.int (eT (eT D.int)))) v_net), some ((eL D.str) v_elders), some (D.str a2)])) (sn_yield (P := fun (_ : Unit) => [some ((eT (e5 D.str (eT D.str) (eT D.str) D.int (eT (eT D.int)))) v_net), some ((eL D.str) v_elders), some (D.str a2)]) sn_nil (fun (_ : Unit) => ()) (fun (_ : Unit) => by exact And.intro rfl (And.intro rfl (And.intro rfl (trivial)))))) (fun (_ : Unit) => ()) (fun (_ : Unit) => by exact And.intro rfl (And.intro rfl (trivial)))))) (fun _ => (sn_yield (P := fun (_ : Unit) => [none, none, none]) (sn_drop (by exact (se_call (sa_cons (d := ((eL D.str) v_elders)) (sp_var (i := 1)) sa_nil) (sim_once_each v_elders)))) (fun (_ : Unit) => ()) (fun (_ : Unit) => by exact trivial))))))) (And.intro rfl (And.intro rfl (trivial)))
def G_many_of : List D → R Fl := (sSeq (sIf (tVal (eOp gNe (eB gLen (aCons (eVar 0) aNil)) (eVar 1))) (sRaise "WrongTable") sNil) (sSeq (sFor (iLst (eVar 0)) (tgName 3) (sIf (tOrB (tVal (eOp gNe (eB gLen (aCons (eVar 3) aNil)) (eVar 2))) (tOrB (tVal (eOp gLt (eB gMin (aCons (eVar 3) aNil)) (eC (.int 0)))) (tVal (eOp gNe (eB gSum (aCons (eVar 3) aNil)) (eB gSum (aCons (eIx (eVar 0) (eC (.int 0))) aNil)))))) (sRaise "WrongTable") sNil)) (sSeq (sAsg 4 (eB gSum (aCons (eIx (eVar 0) (eC (.int 0))) aNil))) (sSeq (sIf (tOrB (tVal (eOp gLt (eVar 4) (eC (.int 1)))) (tVal (eOp gGt (eVar 4) (eC (.int 1000000000))))) (sRaise "WrongTable") sNil) (sRet (eVar 4))))))
def M_many_of : List D → R D := runF 5 (G_many_of)
def T_many_of_b1 (v_table : (List (List Int))) (v_size : Int) (s1 : Unit) (a2 : (List Int)) : R Unit := ((((R.ok (!decide ((a2.length : Int) = v_size))).bind fun a => if a then R.ok true else (((minR a2).bind fun x => (R.ok (0 : Int)).bind fun y => R.ok (decide (x < y))).bind fun a => if a then R.ok true else ((R.ok (List.sum a2)).bind fun x => (((atR v_table (0 : Int)).bind fun x => (R.ok ()).bind fun xs => R.ok (x, xs)).bind fun t => R.ok (List.sum t.1)).bind fun y => R.ok (!decide (x = y))))).bind fun b => if b then (R.ex "WrongTable") else ((R.ok ()).bind fun (_ : Unit) => R.ok ())).bind fun (_ : Unit) => R.ok ())
def T_many_of (v_table : (List (List Int))) (v_choices : Int) (v_size : Int) : R Int := (((R.ok (!decide ((v_table.length : Int) = v_choices))).bind fun b => if b then (R.ex "WrongTable") else ((R.ok ()).bind fun (_ : Unit) => R.ok ())).bind fun _ => (((R.ok v_table).bind fun l => foldR (T_many_of_b1 v_table v_size) l ()).bind fun _ => ((((atR v_table (0 : Int)).bind fun x => (R.ok ()).bind fun xs => R.ok (x, xs)).bind fun t => R.ok (List.sum t.1)).bind fun (v_many : Int) => (((R.ok ((decide (v_many < (1 : Int))) || (decide ((1000000000 : Int) < v_many)))).bind fun b => if b then (R.ex "WrongTable") else ((R.ok ()).bind fun (_ : Unit) => R.ok ())).bind fun _ => (R.ok v_many)))))
theorem sim_many_of (v_table : (List (List Int))) (v_choices : Int) (v_size : Int) : Ref (M_many_of [(eL (eL D.int)) v_table, D.int v_choices, D.int v_size]) ((T_many_of v_table v_choices v_size).map D.int) := by
  unfold M_many_of
  exact run_x (n := 5) (p := [some ((eL (eL D.int)) v_table), some (D.int v_choices), some (D.int v_size), none, none]) (by unfold G_many_of T_many_of; exact (sx_seq (sn_if (by exact (SCp.sc (sc_val (sp_op (k := gNe) (d := D.bl (!decide ((v_table.length : Int) = v_choices))) rfl (sp_b (k := gLen) (d := D.int (v_table.length : Int)) (sa_cons (d := ((eL (eL D.int)) v_table)) (sp_var (i := 0)) sa_nil) (g_lenL _)) (sp_var (i := 1)))))) (sn_raise (P := fun (_ : Unit) => [some ((eL (eL D.int)) v_table), some (D.int v_choices), some (D.int v_size), none, none])) (sn_yield (P := fun (_ : Unit) => [some ((eL (eL D.int)) v_table), some (D.int v_choices), some (D.int v_size), none, none]) sn_nil (fun (_ : Unit) => ()) (fun (_ : Unit) => by exact And.intro rfl (And.intro rfl (And.intro rfl (trivial)))))) (fun _ => (sx_seq (sn_for (P := fun (s1 : Unit) => [some ((eL (eL D.int)) v_table), some (D.int v_choices), some (D.int v_size), none, none]) (Pt := fun (s1 : Unit) (a2 : (List Int)) => [some ((eL (eL D.int)) v_table), some (D.int v_choices), some (D.int v_size), some ((eL D.int) a2), none]) (st := (T_many_of_b1 v_table v_size)) () (si_lst (ea := (eL D.int)) (SP.se (ea := (eL (eL D.int))) (x := v_table) (sp_var (i := 0)))) (by exact And.intro rfl (And.intro rfl (And.intro rfl (trivial)))) (fun _ => tg_name) (fun s1 a2 => by unfold T_many_of_b1; exact (sn_yield (P := fun (s1 : Unit) => [some ((eL (eL D.int)) v_table), some (D.int v_choices), some (D.int v_size), none, none]) (sn_if (by exact (sc_orE (SCp.sc (sc_val (sp_op (k := gNe) (d := D.bl (!decide ((a2.length : Int) = v_size))) rfl (sp_b (k := gLen) (d := D.int (a2.length : Int)) (sa_cons (d := ((eL D.int) a2)) (sp_var (i := 3)) sa_nil) (g_lenL _)) (sp_var (i := 2))))) (sc_orE (sc_valE (se_op (k := gLt) (ea := D.int) (eb := D.int) (ec := D.bl) (h := fun (x : Int) (y : Int) => R.ok (decide (x < y))) (fun x y => Ref.of rfl) (se_b (k := gMin) (ea := D.int) (sa_cons (d := ((eL D.int) a2)) (sp_var (i := 3)) sa_nil) (k_minL a2)) (SP.se (ea := D.int) (x := (0 : Int)) sp_c))) (sc_valE (se_op (k := gNe) (ea := D.int) (eb := D.int) (ec := D.bl) (h := fun (x : Int) (y : Int) => R.ok (!decide (x = y))) (fun x y => Ref.of rfl) (SP.se (ea := D.int) (x := (List.sum a2)) (sp_b (k := gSum) (d := D.int (List.sum a2)) (sa_cons (d := ((eL D.int) a2)) (sp_var (i := 3)) sa_nil) (g_sumL _))) (se_bE (k := gSum) (ea := D.int) (T := fun (t : ((List Int) × Unit)) => R.ok (List.sum t.1)) (sa_consE (se_ixP (ec := (eL D.int)) (k_atL v_table (0 : Int)) (sp_var (i := 0)) sp_c) sa_nilE) (fun t => Ref.of (congrArg ofO (g_sumL _))))))))) (sn_raise (P := fun (_ : Unit) => [some ((eL (eL D.int)) v_table), some (D.int v_choices), some (D.int v_size), some ((eL D.int) a2), none])) (sn_yield (P := fun (_ : Unit) => [some ((eL (eL D.int)) v_table), some (D.int v_choices), some (D.int v_size), some ((eL D.int) a2), none]) sn_nil (fun (_ : Unit) => ()) (fun (_ : Unit) => by exact And.intro rfl (And.intro rfl (And.intro rfl (And.intro rfl (trivial))))))) (fun (_ : Unit) => ()) (fun (_ : Unit) => by exact And.intro rfl (And.intro rfl (And.intro rfl (trivial))))))) (fun _ => (sx_seq (sn_asg (i := 4) (ea := D.int) (P := fun (v_many : Int) => [some ((eL (eL D.int)) v_table), some (D.int v_choices), some (D.int v_size), none, some (D.int v_many)]) (by exact (se_bE (k := gSum) (ea := D.int) (T := fun (t : ((List Int) × Unit)) => R.ok (List.sum t.1)) (sa_consE (se_ixP (ec := (eL D.int)) (k_atL v_table (0 : Int)) (sp_var (i := 0)) sp_c) sa_nilE) (fun t => Ref.of (congrArg ofO (g_sumL _)))))) (fun (v_many : Int) => (sx_seq (sn_if (by exact (SCp.sc (sc_or (sc_val (sp_op (k := gLt) (d := D.bl (decide (v_many < (1 : Int)))) rfl (sp_var (i := 4)) sp_c)) (sc_val (sp_op (k := gGt) (d := D.bl (decide ((1000000000 : Int) < v_many))) rfl (sp_var (i := 4)) sp_c))))) (sn_raise (P := fun (_ : Unit) => [some ((eL (eL D.int)) v_table), some (D.int v_choices), some (D.int v_size), none, some (D.int v_many)])) (sn_yield (P := fun (_ : Unit) => [some ((eL (eL D.int)) v_table), some (D.int v_choices), some (D.int v_size), none, some (D.int v_many)]) sn_nil (fun (_ : Unit) => ()) (fun (_ : Unit) => by exact And.intro rfl (And.intro rfl (And.intro rfl (And.intro rfl (trivial))))))) (fun _ => (sx_ret (by exact (SP.se (ea := D.int) (x := v_many) (sp_var (i := 4)))))))))))))) (And.intro rfl (And.intro rfl (And.intro rfl (trivial))))
def G_made : List D → R Fl := (sSeq (sIf (tOrB (tVal (eOp gLt (eB gLen (aCons (eVar 0) aNil)) (eC (.int 1)))) (tVal (eOp gGt (eB gLen (aCons (eVar 0) aNil)) (eC (.int 10))))) (sRaise "WrongSize") sNil) (sSeq (sAsg 1 (eTup aNil)) (sSeq (sAsg 2 (eC (.int 1))) (sSeq (sFor (iLst (eVar 0)) (tgTup [3, 4, 5, 6]) (sSeq (sIf (tNotB (tVal (eCall M_is_word (aCons (eFlat (eVar 3)) aNil)))) (sRaise "NoWord") sNil) (sSeq (sIf (tVal (eOp gIn (eVar 3) (eCall M_names_of (aCons (eVar 1) aNil)))) (sRaise "Twice") sNil) (sSeq (sDrop (eCall M_look_at_values (aCons (eVar 4) aNil))) (sSeq (sDrop (eCall M_look_at_elders (aCons (eVar 1) (aCons (eVar 5) aNil)))) (sSeq (sAug 2 gMul (eB gLen (aCons (eVar 4) aNil))) (sSeq (sIf (tVal (eOp gGt (eVar 2) (eC (.int 4096)))) (sRaise "WrongSize") sNil) (sSeq (sAsg 7 (eC (.int 1))) (sSeq (sFor (iLst (eVar 5)) (tgName 8) (sAug 7 gMul (eB gLen (aCons (eCall M_values_of (aCons (eVar 1) (aCons (eFlat (eVar 8)) aNil))) aNil)))) (sSeq (sAsg 9 (eCall M_many_of (aCons (eVar 6) (aCons (eVar 7) (aCons (eB gLen (aCons (eVar 4) aNil)) aNil))))) (sAsg 1 (eCatT (eVar 1) (eTup (aCons (eTup (aCons (eFlat (eVar 3)) (aCons (eAsT .ar (eVar 4)) (aCons (eAsT .ar (eVar 5)) (aCons (eVar 9) (aCons (eAsT .fr (eComp (iLst (eVar 6)) (tgName 10) tTrue (eAsT .ar (eVar 10)))) aNil)))))) aNil)))))))))))))) (sRet (eVar 1))))))
def M_made : List D → R D := runF 11 (G_made)
def T_made_b1 (s1 : ((List (Str × (List Str) × (List Str) × Int × (List (List Int)))) × Int)) (s3 : Int) (a4 : Str) : R Int := (((((T_values_of s1.1 a4).bind fun x => (R.ok ()).bind fun xs => R.ok (x, xs)).bind fun t => R.ok (t.1.length : Int)).bind fun x => mulR s3 x).bind fun (v_choices : Int) => R.ok v_choices)
def T_made_b2  (s1 : ((List (Str × (List Str) × (List Str) × Int × (List (List Int)))) × Int)) (a2 : (Str × (List Str) × (List Str) × (List (List Int)))) : R ((List (Str × (List Str) × (List Str) × Int × (List (List Int)))) × Int) := ((((T_is_word a2.1).bind fun b => R.ok (!b)).bind fun b => if b then (R.ex "NoWord") else ((R.ok ()).bind fun (_ : Unit) => R.ok ())).bind fun _ => ((((R.ok a2.1).bind fun x => (T_names_of s1.1).bind fun y => R.ok (decide (x ∈ y))).bind fun b => if b then (R.ex "Twice") else ((R.ok ()).bind fun (_ : Unit) => R.ok ())).bind fun _ => (((T_look_at_values a2.2.1).bind fun _ => R.ok ()).bind fun _ => (((T_look_at_elders s1.1 a2.2.2.1).bind fun _ => R.ok ()).bind fun _ => (((R.ok (a2.2.1.length : Int)).bind fun x => mulR s1.2 x).bind fun (v_ways : Int) => (((R.ok (decide ((4096 : Int) < v_ways))).bind fun b => if b then (R.ex "WrongSize") else ((R.ok ()).bind fun (_ : Unit) => R.ok ())).bind fun _ => ((R.ok (1 : Int)).bind fun (v_choices : Int) => (((R.ok a2.2.2.1).bind fun l => foldR (T_made_b1 s1) l v_choices).bind fun (v_choices : Int) => ((T_many_of a2.2.2.2 v_choices (a2.2.1.length : Int)).bind fun (v_many : Int) => (((R.ok s1.1).bind fun x => (((((R.ok a2.1).bind fun x => ((R.ok a2.2.1).bind fun x => ((R.ok a2.2.2.1).bind fun x => ((R.ok v_many).bind fun x => (((R.ok a2.2.2.2).bind fun l => (cmpR (fun (a5 : (List Int)) => (R.ok true)) (fun (a5 : (List Int)) => (R.ok a5)) l).bind fitN).bind fun x => (R.ok ()).bind fun xs => R.ok (x, xs)).bind fun xs => R.ok (x, xs)).bind fun xs => R.ok (x, xs)).bind fun xs => R.ok (x, xs)).bind fun xs => R.ok (x, xs)).bind fun t => R.ok (t.1, t.2.1, t.2.2.1, t.2.2.2.1, t.2.2.2.2.1)).bind fun x => (R.ok ()).bind fun xs => R.ok (x, xs)).bind fun t => R.ok [t.1]).bind fun y => catR x y).bind fun (v_net : (List (Str × (List Str) × (List Str) × Int × (List (List Int))))) => R.ok (v_net, v_ways)))))))))))
def T_made (v_rows : (List (Str × (List Str) × (List Str) × (List (List Int))))) : R (List (Str × (List Str) × (List Str) × Int × (List (List Int)))) := (((R.ok ((decide ((v_rows.length : Int) < (1 : Int))) || (decide ((10 : Int) < (v_rows.length : Int))))).bind fun b => if b then (R.ex "WrongSize") else ((R.ok ()).bind fun (_ : Unit) => R.ok ())).bind fun _ => ((R.ok ([] : (List (Str × (List Str) × (List Str) × Int × (List (List Int)))))).bind fun (v_net : (List (Str × (List Str) × (List Str) × Int × (List (List Int))))) => ((R.ok (1 : Int)).bind fun (v_ways : Int) => (((R.ok v_rows).bind fun l => foldR T_made_b2 l (v_net, v_ways)).bind fun (y6 : ((List (Str × (List Str) × (List Str) × Int × (List (List Int)))) × Int)) => (R.ok y6.1)))))
theorem sim_made (v_rows : (List (Str × (List Str) × (List Str) × (List (List Int))))) : Ref (M_made [(eL (e4 D.str (eL D.str) (eL D.str) (eL (eL D.int)))) v_rows]) ((T_made v_rows).map (eT (e5 D.str (eT D.str) (eT D.str) D.int (eT (eT D.int))))) := by
  unfold M_made
  exact run_x (n := 11) (p := [some ((eL (e4 D.str (eL D.str) (eL D.str) (eL (eL D.int)))) v_rows), none, none, none, none, none, none, none, none, none, none]) (by unfold G_made T_made; exact (sx_seq (sn_if (by exact (SCp.sc (sc_or (sc_val (sp_op (k := gLt) (d := D.bl (decide ((v_rows.length : Int) < (1 : Int)))) rfl (sp_b (k := gLen) (d := D.int (v_rows.length : Int)) (sa_cons (d := ((eL (e4 D.str (eL D.str) (eL D.str) (eL (eL D.int)))) v_rows)) (sp_var (i := 0)) sa_nil) (g_lenL _)) sp_c)) (sc_val (sp_op (k := gGt) (d := D.bl (decide ((10 : Int) < (v_rows.length : Int)))) rfl (sp_b (k := gLen) (d := D.int (v_rows.length : Int)) (sa_cons (d := ((eL (e4 D.str (eL D.str) (eL D.str) (eL (eL D.int)))) v_rows)) (sp_var (i := 0)) sa_nil) (g_lenL _)) sp_c))))) (sn_raise (P := fun (_ : Unit) => [some ((eL (e4 D.str (eL D.str) (eL D.str) (eL (eL D.int)))) v_rows), none, none, none, none, none, none, none, none, none, none])) (sn_yield (P := fun (_ : Unit) => [some ((eL (e4 D.str (eL D.str) (eL D.str) (eL (eL D.int)))) v_rows), none, none, none, none, none, none, none, none, none, none]) sn_nil (fun (_ : Unit) => ()) (fun (_ : Unit) => by exact And.intro rfl (trivial)))) (fun _ => (sx_seq (sn_asg (i := 1) (ea := (eT (e5 D.str (eT D.str) (eT D.str) D.int (eT (eT D.int))))) (P := fun (v_net : (List (Str × (List Str) × (List Str) × Int × (List (List Int))))) => [some ((eL (e4 D.str (eL D.str) (eL D.str) (eL (eL D.int)))) v_rows), some ((eT (e5 D.str (eT D.str) (eT D.str) D.int (eT (eT D.int)))) v_net), none, none, none, none, none, none, none, none, none]) (by exact (SP.se (ea := (eT (e5 D.str (eT D.str) (eT D.str) D.int (eT (eT D.int))))) (x := ([] : (List (Str × (List Str) × (List Str) × Int × (List (List Int)))))) (sp_tup sa_nil)))) (fun (v_net : (List (Str × (List Str) × (List Str) × Int × (List (List Int))))) => (sx_seq (sn_asg (i := 2) (ea := D.int) (P := fun (v_ways : Int) => [some ((eL (e4 D.str (eL D.str) (eL D.str) (eL (eL D.int)))) v_rows), some ((eT (e5 D.str (eT D.str) (eT D.str) D.int (eT (eT D.int)))) v_net), some (D.int v_ways), none, none, none, none, none, none, none, none]) (by exact (SP.se (ea := D.int) (x := (1 : Int)) sp_c))) (fun (v_ways : Int) => (sx_seq (sn_for (P := fun (s1 : ((List (Str × (List Str) × (List Str) × Int × (List (List Int)))) × Int)) => [some ((eL (e4 D.str (eL D.str) (eL D.str) (eL (eL D.int)))) v_rows), some ((eT (e5 D.str (eT D.str) (eT D.str) D.int (eT (eT D.int)))) s1.1), some (D.int s1.2), none, none, none, none, none, none, none, none]) (Pt := fun (s1 : ((List (Str × (List Str) × (List Str) × Int × (List (List Int)))) × Int)) (a2 : (Str × (List Str) × (List Str) × (List (List Int)))) => [some ((eL (e4 D.str (eL D.str) (eL D.str) (eL (eL D.int)))) v_rows), some ((eT (e5 D.str (eT D.str) (eT D.str) D.int (eT (eT D.int)))) s1.1), some (D.int s1.2), some (D.str a2.1), some ((eL D.str) a2.2.1), some ((eL D.str) a2.2.2.1), some ((eL (eL D.int)) a2.2.2.2), none, none, none, none]) (st := T_made_b2) (v_net, v_ways) (si_lst (ea := (e4 D.str (eL D.str) (eL D.str) (eL (eL D.int)))) (SP.se (ea := (eL (e4 D.str (eL D.str) (eL D.str) (eL (eL D.int))))) (x := v_rows) (sp_var (i := 0)))) (by exact And.intro rfl (And.intro rfl (And.intro rfl (trivial)))) (fun _ => (fun _ _ he => ⟨_, rfl, ((((he.set 3).set 4).set 5).set 6)⟩)) (fun s1 a2 => by unfold T_made_b2; exact (sn_seq (sn_if (by exact (sc_notE (sc_valE (se_call (sa_cons (d := (D.str a2.1)) (sp_flat (sp_var (i := 3))) sa_nil) (sim_is_word a2.1))))) (sn_raise (P := fun (_ : Unit) => [some ((eL (e4 D.str (eL D.str) (eL D.str) (eL (eL D.int)))) v_rows), some ((eT (e5 D.str (eT D.str) (eT D.str) D.int (eT (eT D.int)))) s1.1), some (D.int s1.2), some (D.str a2.1), some ((eL D.str) a2.2.1), some ((eL D.str) a2.2.2.1), some ((eL (eL D.int)) a2.2.2.2), none, none, none, none])) (sn_yield (P := fun (_ : Unit) => [some ((eL (e4 D.str (eL D.str) (eL D.str) (eL (eL D.int)))) v_rows), some ((eT (e5 D.str (eT D.str) (eT D.str) D.int (eT (eT D.int)))) s1.1), some (D.int s1.2), some (D.str a2.1), some ((eL D.str) a2.2.1), some ((eL D.str) a2.2.2.1), some ((eL (eL D.int)) a2.2.2.2), none, none, none, none]) sn_nil (fun (_ : Unit) => ()) (fun (_ : Unit) => by exact And.intro rfl (And.intro rfl (And.intro rfl (And.intro rfl (And.intro rfl (And.intro rfl (And.intro rfl (trivial)))))))))) (fun _ => (sn_seq (sn_if (by exact (sc_valE (se_op (k := gIn) (ea := D.str) (eb := (eT D.str)) (ec := D.bl) (h := fun (x : Str) (y : (List Str)) => R.ok (decide (x ∈ y))) (fun x y => Ref.of (congrArg ofO (g_inT flt_str _ _))) (SP.se (ea := D.str) (x := a2.1) (sp_var (i := 3))) (se_call (sa_cons (d := ((eT (e5 D.str (eT D.str) (eT D.str) D.int (eT (eT D.int)))) s1.1)) (sp_var (i := 1)) sa_nil) (sim_names_of s1.1))))) (sn_raise (P := fun (_ : Unit) => [some ((eL (e4 D.str (eL D.str) (eL D.str) (eL (eL D.int)))) v_rows), some ((eT (e5 D.str (eT D.str) (eT D.str) D.int (eT (eT D.int)))) s1.1), some (D.int s1.2), some (D.str a2.1), some ((eL D.str) a2.2.1), some ((eL D.str) a2.2.2.1), some ((eL (eL D.int)) a2.2.2.2), none, none, none, none])) (sn_yield (P := fun (_ : Unit) => [some ((eL (e4 D.str (eL D.str) (eL D.str) (eL (eL D.int)))) v_rows), some ((eT (e5 D.str (eT D.str) (eT D.str) D.int (eT (eT D.int)))) s1.1), some (D.int s1.2), some (D.str a2.1), some ((eL D.str) a2.2.1), some ((eL D.str) a2.2.2.1), some ((eL (eL D.int)) a2.2.2.2), none, none, none, none]) sn_nil (fun (_ : Unit) => ()) (fun (_ : Unit) => by exact And.intro rfl (And.intro rfl (And.intro rfl (And.intro rfl (And.intro rfl (And.intro rfl (And.intro rfl (trivial)))))))))) (fun _ => (sn_seq (sn_drop (by exact (se_call (sa_cons (d := ((eL D.str) a2.2.1)) (sp_var (i := 4)) sa_nil) (sim_look_at_values a2.2.1)))) (fun _ => (sn_seq (sn_drop (by exact (se_call (sa_cons (d := ((eT (e5 D.str (eT D.str) (eT D.str) D.int (eT (eT D.int)))) s1.1)) (sp_var (i := 1)) (sa_cons (d := ((eL D.str) a2.2.2.1)) (sp_var (i := 5)) sa_nil)) (sim_look_at_elders s1.1 a2.2.2.1)))) (fun _ => (sn_seq (sn_aug (i := 2) (eb := D.int) (h := fun x => mulR s1.2 x) (P := fun (v_ways : Int) => [some ((eL (e4 D.str (eL D.str) (eL D.str) (eL (eL D.int)))) v_rows), some ((eT (e5 D.str (eT D.str) (eT D.str) D.int (eT (eT D.int)))) s1.1), some (D.int v_ways), some (D.str a2.1), some ((eL D.str) a2.2.1), some ((eL D.str) a2.2.2.1), some ((eL (eL D.int)) a2.2.2.2), none, none, none, none]) rfl (by exact (SP.se (ea := D.int) (x := (a2.2.1.length : Int)) (sp_b (k := gLen) (d := D.int (a2.2.1.length : Int)) (sa_cons (d := ((eL D.str) a2.2.1)) (sp_var (i := 4)) sa_nil) (g_lenL _)))) (fun x => k_mul s1.2 x)) (fun (v_ways : Int) => (sn_seq (sn_if (by exact (SCp.sc (sc_val (sp_op (k := gGt) (d := D.bl (decide ((4096 : Int) < v_ways))) rfl (sp_var (i := 2)) sp_c)))) (sn_raise (P := fun (_ : Unit) => [some ((eL (e4 D.str (eL D.str) (eL D.str) (eL (eL D.int)))) v_rows), some ((eT (e5 D.str (eT D.str) (eT D.str) D.int (eT (eT D.int)))) s1.1), some (D.int v_ways), some (D.str a2.1), some ((eL D.str) a2.2.1), some ((eL D.str) a2.2.2.1), some ((eL (eL D.int)) a2.2.2.2), none, none, none, none])) (sn_yield (P := fun (_ : Unit) => [some ((eL (e4 D.str (eL D.str) (eL D.str) (eL (eL D.int)))) v_rows), some ((eT (e5 D.str (eT D.str) (eT D.str) D.int (eT (eT D.int)))) s1.1), some (D.int v_ways), some (D.str a2.1), some ((eL D.str) a2.2.1), some ((eL D.str) a2.2.2.1), some ((eL (eL D.int)) a2.2.2.2), none, none, none, none]) sn_nil (fun (_ : Unit) => ()) (fun (_ : Unit) => by exact And.intro rfl (And.intro rfl (And.intro rfl (And.intro rfl (And.intro rfl (And.intro rfl (And.intro rfl (trivial)))))))))) (fun _ => (sn_seq (sn_asg (i := 7) (ea := D.int) (P := fun (v_choices : Int) => [some ((eL (e4 D.str (eL D.str) (eL D.str) (eL (eL D.int)))) v_rows), some ((eT (e5 D.str (eT D.str) (eT D.str) D.int (eT (eT D.int)))) s1.1), some (D.int v_ways), some (D.str a2.1), some ((eL D.str) a2.2.1), some ((eL D.str) a2.2.2.1), some ((eL (eL D.int)) a2.2.2.2), some (D.int v_choices), none, none, none]) (by exact (SP.se (ea := D.int) (x := (1 : Int)) sp_c))) (fun (v_choices : Int) => (sn_seq (sn_for (P := fun (s3 : Int) => [some ((eL (e4 D.str (eL D.str) (eL D.str) (eL (eL D.int)))) v_rows), some ((eT (e5 D.str (eT D.str) (eT D.str) D.int (eT (eT D.int)))) s1.1), some (D.int v_ways), some (D.str a2.1), some ((eL D.str) a2.2.1), some ((eL D.str) a2.2.2.1), some ((eL (eL D.int)) a2.2.2.2), some (D.int s3), none, none, none]) (Pt := fun (s3 : Int) (a4 : Str) => [some ((eL (e4 D.str (eL D.str) (eL D.str) (eL (eL D.int)))) v_rows), some ((eT (e5 D.str (eT D.str) (eT D.str) D.int (eT (eT D.int)))) s1.1), some (D.int v_ways), some (D.str a2.1), some ((eL D.str) a2.2.1), some ((eL D.str) a2.2.2.1), some ((eL (eL D.int)) a2.2.2.2), some (D.int s3), some (D.str a4), none, none]) (st := (T_made_b1 s1)) v_choices (si_lst (ea := D.str) (SP.se (ea := (eL D.str)) (x := a2.2.2.1) (sp_var (i := 5)))) (by exact And.intro rfl (And.intro rfl (And.intro rfl (And.intro rfl (And.intro rfl (And.intro rfl (And.intro rfl (And.intro rfl (trivial))))))))) (fun _ => tg_name) (fun s3 a4 => by unfold T_made_b1; exact (sn_yield (P := fun (s3 : Int) => [some ((eL (e4 D.str (eL D.str) (eL D.str) (eL (eL D.int)))) v_rows), some ((eT (e5 D.str (eT D.str) (eT D.str) D.int (eT (eT D.int)))) s1.1), some (D.int v_ways), some (D.str a2.1), some ((eL D.str) a2.2.1), some ((eL D.str) a2.2.2.1), some ((eL (eL D.int)) a2.2.2.2), some (D.int s3), none, none, none]) (sn_aug (i := 7) (eb := D.int) (h := fun x => mulR s3 x) (P := fun (v_choices : Int) => [some ((eL (e4 D.str (eL D.str) (eL D.str) (eL (eL D.int)))) v_rows), some ((eT (e5 D.str (eT D.str) (eT D.str) D.int (eT (eT D.int)))) s1.1), some (D.int v_ways), some (D.str a2.1), some ((eL D.str) a2.2.1), some ((eL D.str) a2.2.2.1), some ((eL (eL D.int)) a2.2.2.2), some (D.int v_choices), some (D.str a4), none, none]) rfl (by exact (se_bE (k := gLen) (ea := D.int) (T := fun (t : ((List Str) × Unit)) => R.ok (t.1.length : Int)) (sa_consE (se_call (sa_cons (d := ((eT (e5 D.str (eT D.str) (eT D.str) D.int (eT (eT D.int)))) s1.1)) (sp_var (i := 1)) (sa_cons (d := (D.str a4)) (sp_flat (sp_var (i := 8))) sa_nil)) (sim_values_of s1.1 a4)) sa_nilE) (fun t => Ref.of (congrArg ofO (g_lenT _))))) (fun x => k_mul s3 x)) (fun (v_choices : Int) => v_choices) (fun (v_choices : Int) => by exact And.intro rfl (And.intro rfl (And.intro rfl (And.intro rfl (And.intro rfl (And.intro rfl (And.intro rfl (And.intro rfl (trivial)))))))))))) (fun (v_choices : Int) => (sn_seq (sn_asg (i := 9) (ea := D.int) (P := fun (v_many : Int) => [some ((eL (e4 D.str (eL D.str) (eL D.str) (eL (eL D.int)))) v_rows), some ((eT (e5 D.str (eT D.str) (eT D.str) D.int (eT (eT D.int)))) s1.1), some (D.int v_ways), some (D.str a2.1), some ((eL D.str) a2.2.1), some ((eL D.str) a2.2.2.1), some ((eL (eL D.int)) a2.2.2.2), some (D.int v_choices), none, some (D.int v_many), none]) (by exact (se_call (sa_cons (d := ((eL (eL D.int)) a2.2.2.2)) (sp_var (i := 6)) (sa_cons (d := (D.int v_choices)) (sp_var (i := 7)) (sa_cons (d := (D.int (a2.2.1.length : Int))) (sp_b (k := gLen) (d := D.int (a2.2.1.length : Int)) (sa_cons (d := ((eL D.str) a2.2.1)) (sp_var (i := 4)) sa_nil) (g_lenL _)) sa_nil))) (sim_many_of a2.2.2.2 v_choices (a2.2.1.length : Int))))) (fun (v_many : Int) => (sn_yield (P := fun (s1 : ((List (Str × (List Str) × (List Str) × Int × (List (List Int)))) × Int)) => [some ((eL (e4 D.str (eL D.str) (eL D.str) (eL (eL D.int)))) v_rows), some ((eT (e5 D.str (eT D.str) (eT D.str) D.int (eT (eT D.int)))) s1.1), some (D.int s1.2), none, none, none, none, none, none, none, none]) (sn_asg (i := 1) (ea := (eT (e5 D.str (eT D.str) (eT D.str) D.int (eT (eT D.int))))) (P := fun (v_net : (List (Str × (List Str) × (List Str) × Int × (List (List Int))))) => [some ((eL (e4 D.str (eL D.str) (eL D.str) (eL (eL D.int)))) v_rows), some ((eT (e5 D.str (eT D.str) (eT D.str) D.int (eT (eT D.int)))) v_net), some (D.int v_ways), some (D.str a2.1), some ((eL D.str) a2.2.1), some ((eL D.str) a2.2.2.1), some ((eL (eL D.int)) a2.2.2.2), some (D.int v_choices), none, some (D.int v_many), none]) (by exact (se_catT (SP.se (ea := (eT (e5 D.str (eT D.str) (eT D.str) D.int (eT (eT D.int))))) (x := s1.1) (sp_var (i := 1))) (se_tup (ea := (eT (e5 D.str (eT D.str) (eT D.str) D.int (eT (eT D.int))))) (T := fun (t : ((Str × (List Str) × (List Str) × Int × (List (List Int))) × Unit)) => [t.1]) (sa_consE (se_tup (ea := (e5 D.str (eT D.str) (eT D.str) D.int (eT (eT D.int)))) (T := fun (t : (Str × (List Str) × (List Str) × Int × (List (List Int)) × Unit)) => (t.1, t.2.1, t.2.2.1, t.2.2.2.1, t.2.2.2.2.1)) (sa_consE (SP.se (ea := D.str) (x := a2.1) (sp_flat (sp_var (i := 3)))) (sa_consE (SP.se (ea := (eT D.str)) (x := a2.2.1) (sp_asT (ea := D.str) (l := a2.2.1) (sp_var (i := 4)) (cn_flt flt_str .ar _))) (sa_consE (SP.se (ea := (eT D.str)) (x := a2.2.2.1) (sp_asT (ea := D.str) (l := a2.2.2.1) (sp_var (i := 5)) (cn_flt flt_str .ar _))) (sa_consE (SP.se (ea := D.int) (x := v_many) (sp_var (i := 9))) (sa_consE (se_asT (ea := (eT D.int)) (se_comp (Pt := fun (a5 : (List Int)) => [some ((eL (e4 D.str (eL D.str) (eL D.str) (eL (eL D.int)))) v_rows), some ((eT (e5 D.str (eT D.str) (eT D.str) D.int (eT (eT D.int)))) s1.1), some (D.int v_ways), some (D.str a2.1), some ((eL D.str) a2.2.1), some ((eL D.str) a2.2.2.1), some ((eL (eL D.int)) a2.2.2.2), some (D.int v_choices), none, some (D.int v_many), some ((eL D.int) a5)]) (si_lst (ea := (eL D.int)) (SP.se (ea := (eL (eL D.int))) (x := a2.2.2.2) (sp_var (i := 6)))) (TGs.le (p' := [some ((eL (e4 D.str (eL D.str) (eL D.str) (eL (eL D.int)))) v_rows), some ((eT (e5 D.str (eT D.str) (eT D.str) D.int (eT (eT D.int)))) s1.1), some (D.int v_ways), some (D.str a2.1), some ((eL D.str) a2.2.1), some ((eL D.str) a2.2.2.1), some ((eL (eL D.int)) a2.2.2.2), some (D.int v_choices), none, some (D.int v_many), none]) ((show PLe [some ((eL (e4 D.str (eL D.str) (eL D.str) (eL (eL D.int)))) v_rows), some ((eT (e5 D.str (eT D.str) (eT D.str) D.int (eT (eT D.int)))) s1.1), some (D.int v_ways), some (D.str a2.1), some ((eL D.str) a2.2.1), some ((eL D.str) a2.2.2.1), some ((eL (eL D.int)) a2.2.2.2), some (D.int v_choices), none, some (D.int v_many), none] _ by exact And.intro rfl (And.intro rfl (And.intro rfl (And.intro rfl (And.intro rfl (And.intro rfl (And.intro rfl (And.intro rfl (And.intro rfl (trivial))))))))))) tg_name) (fun a5 => (by exact (SCp.sc sc_true))) (fun a5 => (by exact (SP.se (ea := (eT D.int)) (x := a5) (sp_asT (ea := D.int) (l := a5) (sp_var (i := 10)) (cn_flt flt_int .ar _)))))) (fun _ => rfl)) sa_nilE))))) (fun _ => rfl)) sa_nilE) (fun _ => rfl))))) (fun (v_net : (List (Str × (List Str) × (List Str) × Int × (List (List Int))))) => (v_net, v_ways)) (fun (v_net : (List (Str × (List Str) × (List Str) × Int × (List (List Int))))) => by exact And.intro rfl (And.intro rfl (And.intro rfl (trivial))))))))))))))))))))))))) (fun (y6 : ((List (Str × (List Str) × (List Str) × Int × (List (List Int)))) × Int)) => (sx_ret (by exact (SP.se (ea := (eT (e5 D.str (eT D.str) (eT D.str) D.int (eT (eT D.int))))) (x := y6.1) (sp_var (i := 1)))))))))))))) (And.intro rfl (trivial))
def G_law_copied : List D → R Fl := (sRet (eComp (iLst (eVar 0)) (tgTup [1, 2, 3, 4]) tTrue (eTup (aCons (eVar 1) (aCons (eAsL .im (eVar 2)) (aCons (eAsL .im (eVar 3)) (aCons (eComp (iLst (eVar 4)) (tgName 5) tTrue (eAsL .im (eVar 5))) aNil)))))))
def M_law_copied : List D → R D := runFr 6 (G_law_copied)
def T_law_copied (v_rows_here : (List (Str × (List Str) × (List Str) × (List (List Int))))) : R (List (Str × (List Str) × (List Str) × (List (List Int)))) := ((R.ok v_rows_here).bind fun l => (cmpR (fun (a1 : (Str × (List Str) × (List Str) × (List (List Int)))) => (R.ok true)) (fun (a1 : (Str × (List Str) × (List Str) × (List (List Int)))) => (((R.ok a1.1).bind fun x => ((R.ok a1.2.1).bind fun x => ((R.ok a1.2.2.1).bind fun x => (((R.ok a1.2.2.2).bind fun l => (cmpR (fun (a2 : (List Int)) => (R.ok true)) (fun (a2 : (List Int)) => (R.ok a2)) l).bind fitN).bind fun x => (R.ok ()).bind fun xs => R.ok (x, xs)).bind fun xs => R.ok (x, xs)).bind fun xs => R.ok (x, xs)).bind fun xs => R.ok (x, xs)).bind fun t => R.ok (t.1, t.2.1, t.2.2.1, t.2.2.2.1))) l).bind fitN)
theorem sim_law_copied (v_rows_here : (List (Str × (List Str) × (List Str) × (List (List Int))))) : Ref (M_law_copied [(eL (e4 D.str (eL D.str) (eL D.str) (eL (eL D.int)))) v_rows_here]) ((T_law_copied v_rows_here).map (eL (e4 D.str (eL D.str) (eL D.str) (eL (eL D.int))))) := by
  unfold M_law_copied
  exact run_xr (n := 6) (p := [some ((eL (e4 D.str (eL D.str) (eL D.str) (eL (eL D.int)))) v_rows_here), none, none, none, none, none]) (by unfold G_law_copied T_law_copied; exact (sx_ret (by exact (se_comp (Pt := fun (a1 : (Str × (List Str) × (List Str) × (List (List Int)))) => [some ((eL (e4 D.str (eL D.str) (eL D.str) (eL (eL D.int)))) v_rows_here), some (D.str a1.1), some ((eL D.str) a1.2.1), some ((eL D.str) a1.2.2.1), some ((eL (eL D.int)) a1.2.2.2), none]) (si_lst (ea := (e4 D.str (eL D.str) (eL D.str) (eL (eL D.int)))) (SP.se (ea := (eL (e4 D.str (eL D.str) (eL D.str) (eL (eL D.int))))) (x := v_rows_here) (sp_var (i := 0)))) (TGs.le (p' := [some ((eL (e4 D.str (eL D.str) (eL D.str) (eL (eL D.int)))) v_rows_here), none, none, none, none, none]) ((show PLe [some ((eL (e4 D.str (eL D.str) (eL D.str) (eL (eL D.int)))) v_rows_here), none, none, none, none, none] _ by exact And.intro rfl (trivial))) (fun _ _ he => ⟨_, rfl, ((((he.set 1).set 2).set 3).set 4)⟩)) (fun a1 => (by exact (SCp.sc sc_true))) (fun a1 => (by exact (se_tup (ea := (e4 D.str (eL D.str) (eL D.str) (eL (eL D.int)))) (T := fun (t : (Str × (List Str) × (List Str) × (List (List Int)) × Unit)) => (t.1, t.2.1, t.2.2.1, t.2.2.2.1)) (sa_consE (SP.se (ea := D.str) (x := a1.1) (sp_var (i := 1))) (sa_consE (SP.se (ea := (eL D.str)) (x := a1.2.1) (sp_asLL (ea := D.str) (l := a1.2.1) (sp_var (i := 2)) rfl)) (sa_consE (SP.se (ea := (eL D.str)) (x := a1.2.2.1) (sp_asLL (ea := D.str) (l := a1.2.2.1) (sp_var (i := 3)) rfl)) (sa_consE (se_comp (Pt := fun (a2 : (List Int)) => [some ((eL (e4 D.str (eL D.str) (eL D.str) (eL (eL D.int)))) v_rows_here), some (D.str a1.1), some ((eL D.str) a1.2.1), some ((eL D.str) a1.2.2.1), some ((eL (eL D.int)) a1.2.2.2), some ((eL D.int) a2)]) (si_lst (ea := (eL D.int)) (SP.se (ea := (eL (eL D.int))) (x := a1.2.2.2) (sp_var (i := 4)))) (TGs.le (p' := [some ((eL (e4 D.str (eL D.str) (eL D.str) (eL (eL D.int)))) v_rows_here), some (D.str a1.1), some ((eL D.str) a1.2.1), some ((eL D.str) a1.2.2.1), some ((eL (eL D.int)) a1.2.2.2), none]) ((show PLe [some ((eL (e4 D.str (eL D.str) (eL D.str) (eL (eL D.int)))) v_rows_here), some (D.str a1.1), some ((eL D.str) a1.2.1), some ((eL D.str) a1.2.2.1), some ((eL (eL D.int)) a1.2.2.2), none] _ by exact And.intro rfl (And.intro rfl (And.intro rfl (And.intro rfl (And.intro rfl (trivial))))))) tg_name) (fun a2 => (by exact (SCp.sc sc_true))) (fun a2 => (by exact (SP.se (ea := (eL D.int)) (x := a2) (sp_asLL (ea := D.int) (l := a2) (sp_var (i := 5)) rfl))))) sa_nilE)))) (fun _ => rfl)))))))) (And.intro rfl (trivial))
def G_law_alike (MR : List D → R D) : List D → R Fl := (sSeq (sIf (tOrB (tVal (eIsi "bool" (eVar 1))) (tOrB (tVal (eIsi "str" (eVar 1))) (tVal (eIsi "int" (eVar 1))))) (sSeq (sIf (tOrB (tVal (eOp gNe (eIsi "bool" (eVar 0)) (eIsi "bool" (eVar 1)))) (tVal (eOp gNe (eIsi "str" (eVar 0)) (eIsi "str" (eVar 1))))) (sRet (eC (.bl false))) sNil) (sRet (eAnd (eIsi2 "int" "str" (eVar 0)) (eOp gEq (eVar 0) (eVar 1))))) sNil) (sSeq (sIf (tOrB (tVal (eOp gNe (eIsi "list" (eVar 0)) (eIsi "list" (eVar 1)))) (tNotB (tVal (eIsi2 "list" "tuple" (eVar 0))))) (sRet (eC (.bl false))) sNil) (sSeq (sIf (tVal (eOp gNe (eB gLen (aCons (eVar 0) aNil)) (eB gLen (aCons (eVar 1) aNil)))) (sRet (eC (.bl false))) sNil) (sSeq (sForP (iZipA (eVar 0) (eVar 1)) 2 3 (sIf (tNotB (tVal (eCall MR (aCons (eVar 2) (aCons (eVar 3) aNil))))) (sRet (eC (.bl false))) sNil)) (sRet (eC (.bl true)))))))
def M_law_alike : Nat → List D → R D
  | 0 => fun _ => .bad
  | k + 1 => runF 4 (G_law_alike (M_law_alike k))
def T_law_alike_b1 (TR : D → D → R Bool)  (s1 : Unit) (a2 : (D × D)) : R (TF Unit Bool) := (((TR a2.1 a2.2).bind fun b => R.ok (!b)).bind fun b => if b then ((R.ok false).bind fun y => R.ok (TF.rt y)) else ((((R.ok ()).bind fun (_ : Unit) => R.ok ()).bind fun (_ : Unit) => R.ok ()).bind fun y => R.ok (TF.nx y)))
def B_law_alike (TR : D → D → R Bool) (v_found : D) (v_due_here : D) : R Bool := (((isiR "bool" (eA v_due_here)).bind fun a => if a then R.ok true else ((isiR "str" (eA v_due_here)).bind fun a => if a then R.ok true else (isiR "int" (eA v_due_here)))).bind fun b => if b then ((((isiR "bool" (eA v_found)).bind fun x => (isiR "bool" (eA v_due_here)).bind fun y => R.ok (!decide (x = y))).bind fun a => if a then R.ok true else ((isiR "str" (eA v_found)).bind fun x => (isiR "str" (eA v_due_here)).bind fun y => R.ok (!decide (x = y)))).bind fun b => if b then (R.ok false) else ((R.ok ()).bind fun (_ : Unit) => R.ok ()).bind fun _ => (((R.ok v_found).bind fun x => isi2R "int" "str" (eA x)).bind fun a => if a then (eqAR v_found v_due_here) else R.ok false)) else ((R.ok ()).bind fun (_ : Unit) => R.ok ()).bind fun _ => ((((isiR "list" (eA v_found)).bind fun x => (isiR "list" (eA v_due_here)).bind fun y => R.ok (!decide (x = y))).bind fun a => if a then R.ok true else (((R.ok v_found).bind fun x => isi2R "list" "tuple" (eA x)).bind fun b => R.ok (!b))).bind fun b => if b then (R.ok false) else ((R.ok ()).bind fun (_ : Unit) => R.ok ()).bind fun _ => (((lenA v_found).bind fun x => (lenA v_due_here).bind fun y => R.ok (!decide (x = y))).bind fun b => if b then (R.ok false) else ((R.ok ()).bind fun (_ : Unit) => R.ok ()).bind fun _ => ((((R.ok v_found).bind fun l => (R.ok v_due_here).bind fun k => zipAR l k).bind fun l => forR (T_law_alike_b1 TR) l ()).bind fun t => t.thx fun _ => (R.ok true)))))
def T_law_alike : Nat → D → D → R Bool
  | 0 => fun _ _ => R.bad
  | k + 1 => B_law_alike (T_law_alike k)
theorem sim_law_alike : ∀ (k : Nat) (v_found : D) (v_due_here : D), Ref (M_law_alike k [eA v_found, eA v_due_here]) ((T_law_alike k v_found v_due_here).map D.bl)
  | 0, _, _ => .inl rfl
  | k + 1, v_found, v_due_here => by
    have simR := sim_law_alike k
    show Ref (runF 4 (G_law_alike (M_law_alike k)) [eA v_found, eA v_due_here]) ((B_law_alike (T_law_alike k) v_found v_due_here).map D.bl)
    generalize M_law_alike k = MR at *
    generalize T_law_alike k = TR at *
    exact run_x (p := [some (eA v_found), some (eA v_due_here), none, none]) (by unfold G_law_alike B_law_alike; exact (sx_ifT (by exact (sc_orE (sc_valE (se_isiP (sp_var (i := 1)))) (sc_orE (sc_valE (se_isiP (sp_var (i := 1)))) (sc_valE (se_isiP (sp_var (i := 1))))))) (sx_ifT (by exact (sc_orE (sc_valE (se_op (k := gNe) (ea := D.bl) (eb := D.bl) (ec := D.bl) (h := fun (x : Bool) (y : Bool) => R.ok (!decide (x = y))) (fun x y => Ref.of rfl) (se_isiP (sp_var (i := 0))) (se_isiP (sp_var (i := 1))))) (sc_valE (se_op (k := gNe) (ea := D.bl) (eb := D.bl) (ec := D.bl) (h := fun (x : Bool) (y : Bool) => R.ok (!decide (x = y))) (fun x y => Ref.of rfl) (se_isiP (sp_var (i := 0))) (se_isiP (sp_var (i := 1))))))) (sx_ret (by exact (SP.se (ea := D.bl) (x := false) sp_c))) (sn_yield (P := fun (_ : Unit) => [some (eA v_found), some (eA v_due_here), none, none]) sn_nil (fun (_ : Unit) => ()) (fun (_ : Unit) => by exact And.intro rfl (And.intro rfl (trivial)))) (fun _ => (sx_ret (by exact (se_and (se_isi2 (SP.se (ea := eA) (x := v_found) (sp_var (i := 0)))) (se_opP (k := gEq) (ec := D.bl) (k_eqA v_found v_due_here) (sp_var (i := 0)) (sp_var (i := 1)))))))) (sn_yield (P := fun (_ : Unit) => [some (eA v_found), some (eA v_due_here), none, none]) sn_nil (fun (_ : Unit) => ()) (fun (_ : Unit) => by exact And.intro rfl (And.intro rfl (trivial)))) (fun _ => (sx_ifT (by exact (sc_orE (sc_valE (se_op (k := gNe) (ea := D.bl) (eb := D.bl) (ec := D.bl) (h := fun (x : Bool) (y : Bool) => R.ok (!decide (x = y))) (fun x y => Ref.of rfl) (se_isiP (sp_var (i := 0))) (se_isiP (sp_var (i := 1))))) (sc_notE (sc_valE (se_isi2 (SP.se (ea := eA) (x := v_found) (sp_var (i := 0)))))))) (sx_ret (by exact (SP.se (ea := D.bl) (x := false) sp_c))) (sn_yield (P := fun (_ : Unit) => [some (eA v_found), some (eA v_due_here), none, none]) sn_nil (fun (_ : Unit) => ()) (fun (_ : Unit) => by exact And.intro rfl (And.intro rfl (trivial)))) (fun _ => (sx_ifT (by exact (sc_valE (se_op (k := gNe) (ea := D.int) (eb := D.int) (ec := D.bl) (h := fun (x : Int) (y : Int) => R.ok (!decide (x = y))) (fun x y => Ref.of rfl) (se_b (k := gLen) (ea := D.int) (sa_cons (d := (eA v_found)) (sp_var (i := 0)) sa_nil) (k_lenA v_found)) (se_b (k := gLen) (ea := D.int) (sa_cons (d := (eA v_due_here)) (sp_var (i := 1)) sa_nil) (k_lenA v_due_here))))) (sx_ret (by exact (SP.se (ea := D.bl) (x := false) sp_c))) (sn_yield (P := fun (_ : Unit) => [some (eA v_found), some (eA v_due_here), none, none]) sn_nil (fun (_ : Unit) => ()) (fun (_ : Unit) => by exact And.intro rfl (And.intro rfl (trivial)))) (fun _ => (sx_seqB (sb_forP (P := fun (s1 : Unit) => [some (eA v_found), some (eA v_due_here), none, none]) (Pt := fun (s1 : Unit) (a2 : (D × D)) => [some (eA v_found), some (eA v_due_here), some (eA a2.1), some (eA a2.2)]) (st := (T_law_alike_b1 TR)) () (si_zipA (SP.se (ea := eA) (x := v_found) (sp_var (i := 0))) (SP.se (ea := eA) (x := v_due_here) (sp_var (i := 1)))) (by exact And.intro rfl (And.intro rfl (trivial))) (fun _ _ _ he => (he.set 2).set 3) (fun s1 a2 => by unfold T_law_alike_b1; exact (sb_if (by exact (sc_notE (sc_valE (se_call (sa_cons (d := (eA a2.1)) (sp_var (i := 2)) (sa_cons (d := (eA a2.2)) (sp_var (i := 3)) sa_nil)) (simR a2.1 a2.2))))) (sb_x (P := fun (s1 : Unit) => [some (eA v_found), some (eA v_due_here), none, none]) (sx_ret (by exact (SP.se (ea := D.bl) (x := false) sp_c)))) (sb_n (sn_yield (P := fun (s1 : Unit) => [some (eA v_found), some (eA v_due_here), none, none]) (sn_yield (P := fun (_ : Unit) => [some (eA v_found), some (eA v_due_here), some (eA a2.1), some (eA a2.2)]) sn_nil (fun (_ : Unit) => ()) (fun (_ : Unit) => by exact And.intro rfl (And.intro rfl (And.intro rfl (And.intro rfl (trivial)))))) (fun (_ : Unit) => ()) (fun (_ : Unit) => by exact And.intro rfl (And.intro rfl (trivial)))))))) (fun _ => (sx_ret (by exact (SP.se (ea := D.bl) (x := true) sp_c)))))))))))) (And.intro rfl (And.intro rfl (trivial)))
def G_law_due : List D → R Fl := (sSeq (sAsg 1 (eLst aNil)) (sSeq (sFor (iLst (eVar 0)) (tgTup [2, 3, 4, 5]) (sSeq (sAsg 6 (eAsT .fr (eComp (iLst (eVar 5)) (tgName 7) tTrue (eAsT .im (eVar 7))))) (sOwn 1 gApp (aCons (eTup (aCons (eVar 2) (aCons (eAsT .im (eVar 3)) (aCons (eAsT .im (eVar 4)) (aCons (eB gSum (aCons (eIx (eVar 5) (eC (.int 0))) aNil)) (aCons (eVar 6) aNil)))))) aNil)))) (sRet (eAsT .oc (eVar 1)))))
def M_law_due : List D → R D := runF 8 (G_law_due)
def T_law_due_b1  (s1 : (List (Str × (List Str) × (List Str) × Int × (List (List Int))))) (a2 : (Str × (List Str) × (List Str) × (List (List Int)))) : R (List (Str × (List Str) × (List Str) × Int × (List (List Int)))) := (((R.ok a2.2.2.2).bind fun l => (cmpR (fun (a3 : (List Int)) => (R.ok true)) (fun (a3 : (List Int)) => (R.ok a3)) l).bind fitN).bind fun (v_numbers : (List (List Int))) => (((((R.ok a2.1).bind fun x => ((R.ok a2.2.1).bind fun x => ((R.ok a2.2.2.1).bind fun x => ((((atR a2.2.2.2 (0 : Int)).bind fun x => (R.ok ()).bind fun xs => R.ok (x, xs)).bind fun t => R.ok (List.sum t.1)).bind fun x => ((R.ok v_numbers).bind fun x => (R.ok ()).bind fun xs => R.ok (x, xs)).bind fun xs => R.ok (x, xs)).bind fun xs => R.ok (x, xs)).bind fun xs => R.ok (x, xs)).bind fun xs => R.ok (x, xs)).bind fun t => R.ok (t.1, t.2.1, t.2.2.1, t.2.2.2.1, t.2.2.2.2.1)).bind fun x => appR s1 x).bind fun (v_entries : (List (Str × (List Str) × (List Str) × Int × (List (List Int))))) => R.ok v_entries))
def T_law_due (v_rows_here : (List (Str × (List Str) × (List Str) × (List (List Int))))) : R (List (Str × (List Str) × (List Str) × Int × (List (List Int)))) := ((R.ok ([] : (List (Str × (List Str) × (List Str) × Int × (List (List Int)))))).bind fun (v_entries : (List (Str × (List Str) × (List Str) × Int × (List (List Int))))) => (((R.ok v_rows_here).bind fun l => foldR T_law_due_b1 l v_entries).bind fun (v_entries : (List (Str × (List Str) × (List Str) × Int × (List (List Int))))) => (R.ok v_entries)))
theorem sim_law_due (v_rows_here : (List (Str × (List Str) × (List Str) × (List (List Int))))) : Ref (M_law_due [(eL (e4 D.str (eL D.str) (eL D.str) (eL (eL D.int)))) v_rows_here]) ((T_law_due v_rows_here).map (eT (e5 D.str (eT D.str) (eT D.str) D.int (eT (eT D.int))))) := by
  unfold M_law_due
  exact run_x (n := 8) (p := [some ((eL (e4 D.str (eL D.str) (eL D.str) (eL (eL D.int)))) v_rows_here), none, none, none, none, none, none, none]) (by unfold G_law_due T_law_due; exact (sx_seq (sn_asg (i := 1) (ea := (eL (e5 D.str (eT D.str) (eT D.str) D.int (eT (eT D.int))))) (P := fun (v_entries : (List (Str × (List Str) × (List Str) × Int × (List (List Int))))) => [some ((eL (e4 D.str (eL D.str) (eL D.str) (eL (eL D.int)))) v_rows_here), some ((eL (e5 D.str (eT D.str) (eT D.str) D.int (eT (eT D.int)))) v_entries), none, none, none, none, none, none]) (by exact (SP.se (ea := (eL (e5 D.str (eT D.str) (eT D.str) D.int (eT (eT D.int))))) (x := ([] : (List (Str × (List Str) × (List Str) × Int × (List (List Int)))))) (sp_lst sa_nil)))) (fun (v_entries : (List (Str × (List Str) × (List Str) × Int × (List (List Int))))) => (sx_seq (sn_for (P := fun (s1 : (List (Str × (List Str) × (List Str) × Int × (List (List Int))))) => [some ((eL (e4 D.str (eL D.str) (eL D.str) (eL (eL D.int)))) v_rows_here), some ((eL (e5 D.str (eT D.str) (eT D.str) D.int (eT (eT D.int)))) s1), none, none, none, none, none, none]) (Pt := fun (s1 : (List (Str × (List Str) × (List Str) × Int × (List (List Int))))) (a2 : (Str × (List Str) × (List Str) × (List (List Int)))) => [some ((eL (e4 D.str (eL D.str) (eL D.str) (eL (eL D.int)))) v_rows_here), some ((eL (e5 D.str (eT D.str) (eT D.str) D.int (eT (eT D.int)))) s1), some (D.str a2.1), some ((eL D.str) a2.2.1), some ((eL D.str) a2.2.2.1), some ((eL (eL D.int)) a2.2.2.2), none, none]) (st := T_law_due_b1) v_entries (si_lst (ea := (e4 D.str (eL D.str) (eL D.str) (eL (eL D.int)))) (SP.se (ea := (eL (e4 D.str (eL D.str) (eL D.str) (eL (eL D.int))))) (x := v_rows_here) (sp_var (i := 0)))) (by exact And.intro rfl (And.intro rfl (trivial))) (fun _ => (fun _ _ he => ⟨_, rfl, ((((he.set 2).set 3).set 4).set 5)⟩)) (fun s1 a2 => by unfold T_law_due_b1; exact (sn_seq (sn_asg (i := 6) (ea := (eT (eT D.int))) (P := fun (v_numbers : (List (List Int))) => [some ((eL (e4 D.str (eL D.str) (eL D.str) (eL (eL D.int)))) v_rows_here), some ((eL (e5 D.str (eT D.str) (eT D.str) D.int (eT (eT D.int)))) s1), some (D.str a2.1), some ((eL D.str) a2.2.1), some ((eL D.str) a2.2.2.1), some ((eL (eL D.int)) a2.2.2.2), some ((eT (eT D.int)) v_numbers), none]) (by exact (se_asT (ea := (eT D.int)) (se_comp (Pt := fun (a3 : (List Int)) => [some ((eL (e4 D.str (eL D.str) (eL D.str) (eL (eL D.int)))) v_rows_here), some ((eL (e5 D.str (eT D.str) (eT D.str) D.int (eT (eT D.int)))) s1), some (D.str a2.1), some ((eL D.str) a2.2.1), some ((eL D.str) a2.2.2.1), some ((eL (eL D.int)) a2.2.2.2), none, some ((eL D.int) a3)]) (si_lst (ea := (eL D.int)) (SP.se (ea := (eL (eL D.int))) (x := a2.2.2.2) (sp_var (i := 5)))) (TGs.le (p' := [some ((eL (e4 D.str (eL D.str) (eL D.str) (eL (eL D.int)))) v_rows_here), some ((eL (e5 D.str (eT D.str) (eT D.str) D.int (eT (eT D.int)))) s1), some (D.str a2.1), some ((eL D.str) a2.2.1), some ((eL D.str) a2.2.2.1), some ((eL (eL D.int)) a2.2.2.2), none, none]) ((show PLe [some ((eL (e4 D.str (eL D.str) (eL D.str) (eL (eL D.int)))) v_rows_here), some ((eL (e5 D.str (eT D.str) (eT D.str) D.int (eT (eT D.int)))) s1), some (D.str a2.1), some ((eL D.str) a2.2.1), some ((eL D.str) a2.2.2.1), some ((eL (eL D.int)) a2.2.2.2), none, none] _ by exact And.intro rfl (And.intro rfl (And.intro rfl (And.intro rfl (And.intro rfl (And.intro rfl (trivial)))))))) tg_name) (fun a3 => (by exact (SCp.sc sc_true))) (fun a3 => (by exact (SP.se (ea := (eT D.int)) (x := a3) (sp_asT (ea := D.int) (l := a3) (sp_var (i := 7)) rfl))))) (fun _ => rfl)))) (fun (v_numbers : (List (List Int))) => (sn_yield (P := fun (s1 : (List (Str × (List Str) × (List Str) × Int × (List (List Int))))) => [some ((eL (e4 D.str (eL D.str) (eL D.str) (eL (eL D.int)))) v_rows_here), some ((eL (e5 D.str (eT D.str) (eT D.str) D.int (eT (eT D.int)))) s1), none, none, none, none, none, none]) (sn_app (i := 1) (l := s1) (ea := (e5 D.str (eT D.str) (eT D.str) D.int (eT (eT D.int)))) (P := fun (v_entries : (List (Str × (List Str) × (List Str) × Int × (List (List Int))))) => [some ((eL (e4 D.str (eL D.str) (eL D.str) (eL (eL D.int)))) v_rows_here), some ((eL (e5 D.str (eT D.str) (eT D.str) D.int (eT (eT D.int)))) v_entries), some (D.str a2.1), some ((eL D.str) a2.2.1), some ((eL D.str) a2.2.2.1), some ((eL (eL D.int)) a2.2.2.2), some ((eT (eT D.int)) v_numbers), none]) rfl (se_tup (ea := (e5 D.str (eT D.str) (eT D.str) D.int (eT (eT D.int)))) (T := fun (t : (Str × (List Str) × (List Str) × Int × (List (List Int)) × Unit)) => (t.1, t.2.1, t.2.2.1, t.2.2.2.1, t.2.2.2.2.1)) (sa_consE (SP.se (ea := D.str) (x := a2.1) (sp_var (i := 2))) (sa_consE (SP.se (ea := (eT D.str)) (x := a2.2.1) (sp_asT (ea := D.str) (l := a2.2.1) (sp_var (i := 3)) rfl)) (sa_consE (SP.se (ea := (eT D.str)) (x := a2.2.2.1) (sp_asT (ea := D.str) (l := a2.2.2.1) (sp_var (i := 4)) rfl)) (sa_consE (se_bE (k := gSum) (ea := D.int) (T := fun (t : ((List Int) × Unit)) => R.ok (List.sum t.1)) (sa_consE (se_ixP (ec := (eL D.int)) (k_atL a2.2.2.2 (0 : Int)) (sp_var (i := 5)) sp_c) sa_nilE) (fun t => Ref.of (congrArg ofO (g_sumL _)))) (sa_consE (SP.se (ea := (eT (eT D.int))) (x := v_numbers) (sp_var (i := 6))) sa_nilE))))) (fun _ => rfl))) (fun (v_entries : (List (Str × (List Str) × (List Str) × Int × (List (List Int))))) => v_entries) (fun (v_entries : (List (Str × (List Str) × (List Str) × Int × (List (List Int))))) => by exact And.intro rfl (And.intro rfl (trivial)))))))) (fun (v_entries : (List (Str × (List Str) × (List Str) × Int × (List (List Int))))) => (sx_ret (by exact (SP.se (ea := (eT (e5 D.str (eT D.str) (eT D.str) D.int (eT (eT D.int))))) (x := v_entries) (sp_asT (ea := (e5 D.str (eT D.str) (eT D.str) D.int (eT (eT D.int)))) (l := v_entries) (sp_var (i := 1)) rfl))))))))) (And.intro rfl (trivial))
abbrev NE := Str × List Str × List Str × Int × List (List Int)
abbrev NRow := Str × List Str × List Str × List (List Int)
def abc : List Nat := (Str.ofString "abcdefghijklmnopqrstuvwxyz").cps.toList
def isW (z : Str) : Bool := decide (1 ≤ z.length) && decide (z.length ≤ 8) && z.cps.toList.all fun c => decide (c ∈ abc)
theorem isW_len {z : Str} (h : isW z = true) : 1 ≤ z.length ∧ z.length ≤ 8 := by
  unfold isW at h
  simp only [Bool.and_eq_true, decide_eq_true_iff] at h
  exact h.1
theorem lenS_ok {z : Str} (h : z.length ≤ sizeLine) : lenS z = .ok (z.length : Int) := if_pos h
theorem nin_abc (c : Nat) : ninSR ⟨#[c]⟩ "abcdefghijklmnopqrstuvwxyz" = .ok (!decide (c ∈ abc)) := by
  unfold ninSR
  rw [sign1_one]
  rfl
theorem for_word : ∀ cs : List Nat, forR T_is_word_b1 (cs.map fun c => (⟨#[c]⟩ : Str)) () = .ok (if cs.all (fun c => decide (c ∈ abc)) then .nx () else .rt false)
  | [] => rfl
  | c :: cs => by
    rw [List.map_cons, forR, T_is_word_b1, nin_abc, List.all_cons]
    by_cases hc : c ∈ abc
    · simp only [hc, decide_true, Bool.not_true, R.bind_ok, Bool.false_eq_true, if_false, TF.thn_nx, Bool.true_and]
      exact for_word cs
    · simp [hc]
theorem T_is_word_eq {z : Str} (h : z.length ≤ sizeLine) : T_is_word z = .ok (isW z) := by
  unfold T_is_word isW sgns
  simp only [lenS_ok h, R.bind_ok, for_word]
  by_cases h1 : z.length < 1
  · simp [show (z.length : Int) < 1 by omega, show ¬ 1 ≤ z.length by omega]
  · by_cases h2 : 8 < z.length
    · simp [show ¬ (z.length : Int) < 1 by omega, show (8 : Int) < z.length by omega, show ¬ z.length ≤ 8 by omega]
    · cases hc : z.cps.toList.all (fun c => decide (c ∈ abc)) with
      | true => simp [show ¬ (z.length : Int) < 1 by omega, show ¬ (8 : Int) < z.length by omega, show z.length ≤ 8 by omega, show 1 ≤ z.length by omega]
      | false => simp [show ¬ (z.length : Int) < 1 by omega, show ¬ (8 : Int) < z.length by omega]
theorem T_names_of_eq {net : List NE} (h : net.length ≤ sizeLine) : T_names_of net = .ok (net.map (·.1)) := by
  unfold T_names_of
  rw [R.bind_ok, cmpR_map (f := fun e : NE => e.1) fun _ _ => rfl, R.bind_ok, fitN_ok (by rw [List.length_map]; exact h)]
theorem for_entry (nm : Str) : ∀ net : List NE, forR (T_entry_of_b1 nm) net () = .ok (match net.find? (fun e => decide (e.1 = nm)) with | some e => .rt e | none => .nx ())
  | [] => rfl
  | e :: net => by
    rw [forR, T_entry_of_b1]
    by_cases h : e.1 = nm
    · simp [h]
    · simp only [h, decide_false, R.bind_ok, Bool.false_eq_true, if_false, TF.thn_nx]
      rw [for_entry nm net, List.find?_cons_of_neg (by simpa using h)]
theorem T_entry_of_eq (net : List NE) (nm : Str) : T_entry_of net nm = match net.find? (fun e => decide (e.1 = nm)) with | some e => .ok e | none => .ex "NoName" := by
  unfold T_entry_of
  rw [R.bind_ok, for_entry]
  cases net.find? (fun e => decide (e.1 = nm)) <;> rfl
theorem find_mem {net : List NE} {nm : Str} (h : nm ∈ net.map (·.1)) : ∃ e ∈ net, e.1 = nm ∧ net.find? (fun e => decide (e.1 = nm)) = some e := by
  cases hf : net.find? (fun e => decide (e.1 = nm)) with
  | some e => exact ⟨e, List.mem_of_find?_eq_some hf, by simpa using List.find?_some hf, rfl⟩
  | none =>
    rw [List.find?_eq_none] at hf
    obtain ⟨e, he, rfl⟩ := List.mem_map.mp h
    exact ((hf e he) (by simp)).elim
def valsOf (net : List NE) (nm : Str) : List Str := match net.find? (fun e => decide (e.1 = nm)) with | some e => e.2.1 | none => []
theorem T_values_of_eq {net : List NE} {nm : Str} (h : nm ∈ net.map (·.1)) : T_values_of net nm = .ok (valsOf net nm) := by
  obtain ⟨e, _, _, hf⟩ := find_mem h
  unfold T_values_of valsOf
  rw [T_entry_of_eq, hf]
  rfl
theorem foldU {α : Type} {f : Unit → α → R Unit} {p : α → Bool} {c : Str} : ∀ l : List α, (∀ a ∈ l, f () a = if p a then .ok () else .ex c) → foldR f l () = if l.all p then .ok () else .ex c
  | [], _ => rfl
  | a :: l, h => by
    rw [foldR, h a (by simp), List.all_cons]
    cases p a with
    | true =>
      simp only [if_true, R.bind_ok, Bool.true_and]
      exact foldU l fun b hb => h b (by simp [hb])
    | false => rfl
theorem once_go (all : List Str) : ∀ (suf pre : List Str), all = pre ++ suf → pre.Nodup → foldR (T_once_each_b1 all) ((suf.zipIdx pre.length).map fun p => ((p.2 : Int), p.1)) () = if all.Nodup then .ok () else .ex "Twice"
  | [], pre, h, hp => by
    rw [List.append_nil] at h
    subst h
    rw [if_pos hp]
    rfl
  | x :: suf, pre, h, hp => by
    rw [List.zipIdx_cons, List.map_cons, foldR, T_once_each_b1]
    have e : cutL all none (some ((pre.length : Nat) : Int)) = pre := by
      rw [cutL_upto, h, List.take_left]
    simp only [e]
    by_cases hx : x ∈ pre
    · rw [if_neg]
      · simp [hx]
      · rw [h, List.nodup_append]
        intro z
        exact z.2.2 x hx x (by simp) rfl
    · simp only [hx, decide_false, R.bind_ok, Bool.false_eq_true, if_false]
      have := once_go all suf (pre ++ [x]) (by rw [h]; simp) (by
        rw [List.nodup_append]
        refine ⟨hp, by simp, fun a ha b hb => ?_⟩
        rw [List.mem_singleton] at hb
        subst hb
        exact fun z => hx (z ▸ ha))
      rw [List.length_append, List.length_singleton] at this
      exact this
theorem T_once_each_eq (l : List Str) : T_once_each l = if l.Nodup then .ok () else .ex "Twice" := by
  unfold T_once_each
  simp only [R.bind_ok]
  have := once_go l l [] rfl (by simp)
  unfold enumN
  rw [show ([] : List Str).length = 0 from rfl] at this
  rw [this]
  split <;> rfl
def lookV (vs : List Str) : R Unit := if vs.length < 2 ∨ 4 < vs.length then .ex "WrongSize" else if ¬ vs.all isW = true then .ex "NoWord" else if ¬ vs.Nodup then .ex "Twice" else .ok ()
theorem T_look_at_values_eq {vs : List Str} (h : ∀ v ∈ vs, v.length ≤ sizeLine) : T_look_at_values vs = lookV vs := by
  unfold T_look_at_values lookV
  by_cases h1 : vs.length < 2 ∨ 4 < vs.length
  · have : (decide ((vs.length : Int) < 2) || decide ((4 : Int) < (vs.length : Int))) = true := by simp; omega
    rw [if_pos h1, this]
    rfl
  · have : (decide ((vs.length : Int) < 2) || decide ((4 : Int) < (vs.length : Int))) = false := by simp; omega
    rw [if_neg h1, this]
    simp only [R.bind_ok, Bool.false_eq_true, if_false]
    rw [foldU (p := isW) (c := "NoWord") vs fun v hv => by
      unfold T_look_at_values_b1
      rw [T_is_word_eq (h v hv)]
      cases isW v <;> rfl]
    by_cases h2 : vs.all isW = true
    · rw [if_pos h2, if_neg (by simpa using h2), T_once_each_eq]
      by_cases h3 : vs.Nodup
      · rw [if_pos h3, if_neg (by simpa using h3)]; rfl
      · rw [if_neg h3, if_pos h3]; rfl
    · rw [if_neg h2, if_pos h2]; rfl
def lookE (ns es : List Str) : R Unit := if 3 < es.length then .ex "WrongSize" else if ¬ (es.all fun e => decide (e ∈ ns)) = true then .ex "NoElder" else if ¬ es.Nodup then .ex "Twice" else .ok ()
theorem T_look_at_elders_eq {net : List NE} {es : List Str} (h : net.length ≤ sizeLine) : T_look_at_elders net es = lookE (net.map (·.1)) es := by
  unfold T_look_at_elders lookE
  by_cases h1 : 3 < es.length
  · rw [if_pos h1, show decide ((3 : Int) < (es.length : Int)) = true by simp; omega]
    rfl
  · rw [if_neg h1, show decide ((3 : Int) < (es.length : Int)) = false by simp; omega]
    simp only [R.bind_ok, Bool.false_eq_true, if_false]
    rw [foldU (p := fun e => decide (e ∈ net.map (·.1))) (c := "NoElder") es fun v hv => by
      unfold T_look_at_elders_b1
      rw [T_names_of_eq h]
      by_cases hm : v ∈ net.map (·.1) <;> simp [hm]]
    by_cases h2 : (es.all fun e => decide (e ∈ net.map (·.1))) = true
    · rw [if_pos h2, if_neg (by simpa using h2), T_once_each_eq]
      by_cases h3 : es.Nodup
      · rw [if_pos h3, if_neg (by simpa using h3)]; rfl
      · rw [if_neg h3, if_pos h3]; rfl
    · rw [if_neg h2, if_pos h2]; rfl
def rowOk (size : Int) (t : Int) (row : List Int) : Bool := decide ((row.length : Int) = size) && row.all (fun x => decide (0 ≤ x)) && decide (row.sum = t)
def tabOk (table : List (List Int)) (choices size : Int) : Bool := decide ((table.length : Int) = choices) && table.all (rowOk size (table.headD []).sum) && decide (1 ≤ (table.headD []).sum) && decide ((table.headD []).sum ≤ 1000000000)
theorem minR_spec {l : List Int} (h : l ≠ []) : ∃ m, minR l = .ok m ∧ (m < 0 ↔ ¬ (l.all fun x => decide (0 ≤ x)) = true) := by
  unfold minR
  cases e : l.min? with
  | none => rw [List.min?_eq_none_iff] at e; exact (h e).elim
  | some m =>
    refine ⟨m, rfl, ?_⟩
    have hm := List.min?_eq_some_iff.mp e
    constructor
    · intro h0 hc
      rw [List.all_eq_true] at hc
      have := hc m hm.1
      simp at this
      omega
    · intro hc
      by_cases h0 : m < 0
      · exact h0
      · refine (hc ?_).elim
        rw [List.all_eq_true]
        intro x hx
        have := hm.2 x hx
        simp
        omega
theorem T_many_of_eq {table : List (List Int)} {choices size : Int} (hc : 1 ≤ choices) (hs : 1 ≤ size) : T_many_of table choices size = if tabOk table choices size then .ok (table.headD []).sum else .ex "WrongTable" := by
  unfold T_many_of tabOk
  by_cases h1 : (table.length : Int) = choices
  · cases table with
    | nil => simp at h1; omega
    | cons r0 rows =>
      have a0 : atR (r0 :: rows) 0 = .ok r0 := atR_nat (k := 0) rfl
      simp only [h1, decide_true, Bool.not_true, R.bind_ok, Bool.false_eq_true, if_false, a0, List.headD_cons, Bool.true_and]
      rw [foldU (p := rowOk size r0.sum) (c := "WrongTable") (r0 :: rows) fun row hr => by
        unfold T_many_of_b1 rowOk
        rw [a0]
        by_cases g1 : (row.length : Int) = size
        · obtain ⟨m, hm, hi⟩ := minR_spec (l := row) (fun z => by rw [z] at g1; simp at g1; omega)
          rw [hm]
          by_cases g2 : (row.all fun x => decide (0 ≤ x)) = true
          · have g3 : ¬ m < 0 := fun z => (hi.mp z) g2
            rw [g2]
            by_cases g4 : row.sum = r0.sum <;> simp [g1, g3, g4]
          · have g3 : m < 0 := hi.mpr g2
            rw [Bool.eq_false_iff.mpr g2]
            simp [g1, g3]
        · simp [g1]]
      by_cases h2 : (r0 :: rows).all (rowOk size r0.sum) = true
      · rw [if_pos h2, h2]
        by_cases h3 : 1 ≤ r0.sum
        · by_cases h4 : r0.sum ≤ 1000000000
          · simp [h3, h4, show ¬ r0.sum < 1 by omega, show ¬ 1000000000 < r0.sum by omega]
          · simp [h4, show 1000000000 < r0.sum by omega]
        · simp [h3, show r0.sum < 1 by omega]
      · rw [if_neg h2, Bool.eq_false_iff.mpr h2]
        rfl
  · simp [h1]
def choicesF (net : List NE) (es : List Str) : Int := es.foldl (fun c e => c * ((valsOf net e).length : Int)) 1
def dueE (r : NRow) : NE := (r.1, r.2.1, r.2.2.1, (r.2.2.2.headD []).sum, r.2.2.2)
def madeStep (s : List NE × Int) (r : NRow) : R (List NE × Int) :=
  if ¬ isW r.1 = true then .ex "NoWord"
  else if r.1 ∈ s.1.map (·.1) then .ex "Twice"
  else (lookV r.2.1).bind fun _ => (lookE (s.1.map (·.1)) r.2.2.1).bind fun _ =>
  if 4096 < s.2 * (r.2.1.length : Int) then .ex "WrongSize"
  else if ¬ tabOk r.2.2.2 (choicesF s.1 r.2.2.1) (r.2.1.length : Int) = true then .ex "WrongTable"
  else .ok (s.1 ++ [dueE r], s.2 * (r.2.1.length : Int))
structure RowSz (r : NRow) : Prop where
  nm : r.1.length ≤ sizeLine
  vs : ∀ v ∈ r.2.1, v.length ≤ sizeLine
  tb : r.2.2.2.length ≤ sizeLine
structure NetSz (net : List NE) : Prop where
  len : net.length < sizeLine
  vs : ∀ e ∈ net, 1 ≤ e.2.1.length ∧ e.2.1.length ≤ 4
theorem valsOf_len {net : List NE} (h : NetSz net) {nm : Str} (hn : nm ∈ net.map (·.1)) : 1 ≤ (valsOf net nm).length ∧ (valsOf net nm).length ≤ 4 := by
  obtain ⟨e, he, _, hf⟩ := find_mem hn
  unfold valsOf
  rw [hf]
  exact h.vs e he
theorem fold_choices {net : List NE} {w : Int} (h : NetSz net) : ∀ (es : List Str) (c : Int), (∀ e ∈ es, e ∈ net.map (·.1)) → 1 ≤ c → foldR (T_made_b1 (net, w)) es c = .ok (es.foldl (fun c e => c * ((valsOf net e).length : Int)) c) ∧ 1 ≤ es.foldl (fun c e => c * ((valsOf net e).length : Int)) c
  | [], c, _, hc => ⟨rfl, hc⟩
  | e :: es, c, he, hc => by
    have hn := he e (by simp)
    have hl := valsOf_len h hn
    have m : IntMulOk c ((valsOf net e).length : Int) := mulOk_right (by omega) (by omega)
    have hc' : 1 ≤ c * ((valsOf net e).length : Int) := by
      have := Int.mul_le_mul hc (show (1 : Int) ≤ ((valsOf net e).length : Int) by omega) (by decide) (by omega)
      omega
    obtain ⟨i1, i2⟩ := fold_choices h es (c * ((valsOf net e).length : Int)) (fun x hx => he x (by simp [hx])) hc'
    rw [foldR, T_made_b1]
    simp only [T_values_of_eq hn, R.bind_ok, mulR_ok m]
    exact ⟨i1, i2⟩
theorem T_made_b2_eq {net : List NE} {w : Int} {r : NRow} (hr : RowSz r) (hn : NetSz net) (h1 : 1 ≤ w) (h2 : w ≤ 4096) : T_made_b2 (net, w) r = madeStep (net, w) r := by
  obtain ⟨nm, vs, es, tb⟩ := r
  obtain ⟨s1, s2, s3⟩ := hr
  simp only at s1 s2 s3
  unfold T_made_b2 madeStep
  simp only [T_is_word_eq s1, R.bind_ok, T_names_of_eq (Nat.le_of_lt hn.len), T_look_at_values_eq s2, T_look_at_elders_eq (Nat.le_of_lt hn.len)]
  by_cases g1 : isW nm = true
  · by_cases g2 : nm ∈ net.map (·.1)
    · simp only [g1, g2, decide_true, Bool.not_true, Bool.false_eq_true, if_false, if_true, R.bind_ok, R.bind_ex, not_true_eq_false]
    · simp only [g1, g2, decide_false, Bool.not_true, Bool.false_eq_true, if_false, R.bind_ok, not_true_eq_false]
      cases e1 : lookV vs with
      | bad => rfl
      | ex c => rfl
      | ok u =>
        cases e2 : lookE (net.map (·.1)) es with
        | bad => rfl
        | ex c => rfl
        | ok u2 =>
          have v1 : ¬ (vs.length < 2 ∨ 4 < vs.length) := fun z => by unfold lookV at e1; rw [if_pos z] at e1; cases e1
          have v2 : (es.all fun e => decide (e ∈ net.map (·.1))) = true := by
            unfold lookE at e2
            by_cases z1 : 3 < es.length
            · rw [if_pos z1] at e2; cases e2
            · rw [if_neg z1] at e2
              by_cases z2 : (es.all fun e => decide (e ∈ net.map (·.1))) = true
              · exact z2
              · rw [if_pos z2] at e2; cases e2
          have v3 : ∀ e ∈ es, e ∈ net.map (·.1) := fun e he => by simpa using List.all_eq_true.mp v2 e he
          have m : IntMulOk w (vs.length : Int) := mulOk_left (by omega) (by omega)
          obtain ⟨c1, c2⟩ := fold_choices (w := w) hn es 1 v3 (by decide)
          simp only [R.bind_ok, mulR_ok m]
          by_cases g3 : 4096 < w * (vs.length : Int)
          · simp only [g3, decide_true, if_true, R.bind_ex]
          · simp only [g3, decide_false, Bool.false_eq_true, if_false, R.bind_ok, c1]
            rw [T_many_of_eq c2 (by omega)]
            show R.bind (if tabOk tb (choicesF net es) (vs.length : Int) = true then _ else _) _ = _
            by_cases g4 : tabOk tb (choicesF net es) (vs.length : Int) = true
            · simp only [g4, if_true, R.bind_ok, not_true_eq_false, if_false]
              rw [cmpR_map (f := fun x : List Int => x) fun _ _ => rfl, List.map_id']
              simp only [R.bind_ok, fitN_ok s3]
              rw [catR_ok (by have := hn.len; simp; omega)]
              rfl
            · simp only [g4, if_false, R.bind_ex, not_false_eq_true, if_true]
              rfl
  · simp only [g1, not_false_eq_true, if_true, Bool.not_false, R.bind_ok, R.bind_ex, Bool.false_eq_true]
theorem cps_append (x y : Str) : (x ++ y).cps.toList = x.cps.toList ++ y.cps.toList := by
  show (x.cps ++ y.cps).toList = _
  rw [Array.toList_append]
theorem len_cps (x : Str) : x.length = x.cps.toList.length := by rw [Array.length_toList]; rfl
theorem len_append (x y : Str) : (x ++ y).length = x.length + y.length := by rw [len_cps, cps_append, List.length_append, ← len_cps, ← len_cps]
theorem cutS_cps (z : Str) (lo hi : Option Int) : (cutS z lo hi).cps.toList = cutL z.cps.toList lo hi := by
  unfold cutS cutL
  rw [len_cps]
theorem catS_ok {x y : Str} (h : x.length + y.length ≤ sizeLine) : catS x y = .ok (x ++ y) := if_pos h
theorem cutSR_ok {z : Str} {lo hi : Option Int} (h : z.length ≤ sizeLine) : cutSR z lo hi = .ok (cutS z lo hi) := if_pos h
def lt (i : Int) : Str := ⟨#[abc.getD i.toNat 0]⟩
theorem abc_len : abc.length = 26 := by decide +kernel
theorem abc_nodup : abc.Nodup := by decide +kernel
theorem letters_len : (Str.ofString "abcdefghijklmnopqrstuvwxyz").length = 26 := by decide +kernel
theorem atS_abc {i : Int} (h0 : 0 ≤ i) (h1 : i < 26) : atSR "abcdefghijklmnopqrstuvwxyz" i = .ok (lt i) := by
  unfold atSR
  rw [letters_len, if_pos (by decide)]
  have e : atI (Str.ofString "abcdefghijklmnopqrstuvwxyz").cps.toList i = some (abc.getD i.toNat 0) := by
    obtain ⟨n, rfl⟩ : ∃ n : Nat, i = n := ⟨i.toNat, by omega⟩
    refine atI_nat (xs := abc) ?_
    have : n < abc.length := by rw [abc_len]; omega
    simp [this]
  rw [e]
  rfl
theorem lt_mem {i : Int} (h0 : 0 ≤ i) (h1 : i < 26) : abc.getD i.toNat 0 ∈ abc := by
  have : i.toNat < abc.length := by rw [abc_len]; omega
  rw [List.getD_eq_getElem?_getD, List.getElem?_eq_getElem this]
  exact List.getElem_mem _
theorem lt_inj {i j : Int} (h0 : 0 ≤ i) (h1 : i < 26) (h2 : 0 ≤ j) (h3 : j < 26) (h : abc.getD i.toNat 0 = abc.getD j.toNat 0) : i = j := by
  have a : i.toNat < abc.length := by rw [abc_len]; omega
  have b : j.toNat < abc.length := by rw [abc_len]; omega
  rw [List.getD_eq_getElem?_getD, List.getElem?_eq_getElem a, List.getD_eq_getElem?_getD, List.getElem?_eq_getElem b] at h
  have := (List.getElem_inj abc_nodup).mp h
  omega
theorem isW_of {z : Str} {cs : List Nat} (e : z.cps.toList = cs) (h1 : 1 ≤ cs.length) (h2 : cs.length ≤ 8) (h3 : ∀ c ∈ cs, c ∈ abc) : isW z = true := by
  unfold isW
  rw [len_cps, e]
  simp only [Bool.and_eq_true, decide_eq_true_iff, List.all_eq_true]
  exact ⟨⟨h1, h2⟩, h3⟩
theorem isW_cps {z : Str} (h : isW z = true) : ∀ c ∈ z.cps.toList, c ∈ abc := by
  unfold isW at h
  simp only [Bool.and_eq_true, decide_eq_true_iff, List.all_eq_true] at h
  exact h.2
theorem abc_small : ∀ c ∈ abc, c < 128 := by decide +kernel
theorem isW_ok {z : Str} (h : isW z = true) (k : Nat) : plD k (.str z) = true := by
  rw [plD_str]
  unfold PyData.strOk
  rw [← Array.all_toList, List.all_eq_true]
  intro c hc
  have := abc_small c (isW_cps h c hc)
  simp
  omega
theorem isW_sz {z : Str} (h : isW z = true) : z.length ≤ sizeLine := by
  have := isW_len h
  rw [sizeLine_eq]
  omega
theorem rng_mem {a b x : Int} (h : x ∈ rng a b) : a ≤ x ∧ x < b := by
  unfold rng at h
  obtain ⟨i, hi, rfl⟩ := List.mem_map.mp h
  rw [List.mem_range] at hi
  omega
theorem rng_len (a b : Int) : (rng a b).length = (b - a).toNat := by unfold rng; rw [List.length_map, List.length_range]
theorem rng_nodup (a b : Int) : (rng a b).Nodup := by
  unfold rng
  rw [List.nodup_iff_pairwise_ne, List.pairwise_map]
  exact List.Pairwise.imp (fun h z => h (by omega)) (List.nodup_iff_pairwise_ne.mp List.nodup_range)
theorem nodup_map_of {α β : Type} {f : α → β} {l : List α} (hl : l.Nodup) (hf : ∀ a ∈ l, ∀ b ∈ l, f a = f b → a = b) : (l.map f).Nodup := by
  rw [List.nodup_iff_pairwise_ne] at hl ⊢
  rw [List.pairwise_map]
  exact List.Pairwise.imp_of_mem (fun ha hb h z => h (hf _ ha _ hb z)) hl
def wordAt (st : List Nat) (at_ : Nat) (c : Nat) : Str := ⟨(st.take at_ ++ [c] ++ st.drop at_).toArray⟩
theorem wordAt_inj {st : List Nat} {k : Nat} {c d : Nat} (hk : k ≤ st.length) (h : wordAt st k c = wordAt st k d) : c = d := by
  have h1 : st.take k ++ [c] ++ st.drop k = st.take k ++ [d] ++ st.drop k := by
    have := congrArg (fun z : Str => z.cps.toList) h
    simpa [wordAt] using this
  rw [List.append_assoc, List.append_assoc] at h1
  have h2 := List.append_cancel_left h1
  simpa using h2
theorem joinL_nil : ∀ ps : List (List Nat), TL.joinL [] ps = ps.flatten
  | [] => rfl
  | [p] => by simp [TL.joinL]
  | p :: q :: r => by
    show p ++ ([] ++ TL.joinL [] (q :: r)) = _
    rw [joinL_nil (q :: r)]
    simp
theorem join_cps (ps : List Str) : (Txt.join "" ps).cps.toList = (ps.map (·.cps.toList)).flatten := by
  have h : Txt.join "" ps = Str.join "" ps := StrLaws.glued_eq_join _ _
  rw [h]
  have := TL.tl_join "" ps
  rw [show TL.tl ("" : Str) = [] from rfl, joinL_nil] at this
  exact this
theorem stem_ok (f : Int → Int) (m : Int) (h0 : 0 ≤ m) (h1 : m ≤ 7) : ∃ (ss : List Str) (st : Str), cmpR (fun _ => R.ok true) (fun a => atSR "abcdefghijklmnopqrstuvwxyz" (f a % 26)) (rng 0 m) = .ok ss ∧ ss.length ≤ sizeLine ∧ joinR "" ss = .ok st ∧ st.length = m.toNat ∧ ∀ c ∈ st.cps.toList, c ∈ abc := by
  have e := cmpR_map (g := fun a => atSR "abcdefghijklmnopqrstuvwxyz" (f a % 26)) (f := fun a => lt (f a % 26)) (l := rng 0 m) fun a _ => atS_abc (Int.emod_nonneg _ (by decide)) (Int.emod_lt_of_pos _ (by decide))
  have cp : ∀ l : List Int, ((l.map fun a => lt (f a % 26)).map (·.cps.toList)).flatten = l.map fun a => abc.getD (f a % 26).toNat 0 := fun l => by
    induction l with
    | nil => rfl
    | cons a l ih => rw [List.map_cons, List.map_cons, List.flatten_cons, ih]; rfl
  have sl : ∀ l : List Int, (((l.map fun a => lt (f a % 26)).map (·.length)).sum) = l.length := fun l => by
    induction l with
    | nil => rfl
    | cons a l ih => rw [List.map_cons, List.map_cons, List.sum_cons, ih]; show 1 + l.length = _; simp; omega
  refine ⟨_, Txt.join "" ((rng 0 m).map fun a => lt (f a % 26)), e, ?_, ?_, ?_, ?_⟩
  · rw [List.length_map, rng_len, sizeLine_eq]; omega
  · unfold joinR
    rw [if_pos]
    rw [sl, List.length_map, rng_len]
    show _ + _ * 0 ≤ _
    omega
  · rw [len_cps, join_cps, cp, List.length_map, rng_len]
    omega
  · rw [join_cps, cp]
    intro c hc
    obtain ⟨a, _, rfl⟩ := List.mem_map.mp hc
    exact lt_mem (Int.emod_nonneg _ (by decide)) (Int.emod_lt_of_pos _ (by decide))
theorem word_ok {st : Str} {at_ j : Int} (hs : st.length ≤ 7) (ha : ∀ c ∈ st.cps.toList, c ∈ abc) (a0 : 0 ≤ at_) (a1 : at_ ≤ st.length) (j0 : 0 ≤ j) (j1 : j < 26) :
    (((cutSR st none (some at_)).bind fun x => (atSR "abcdefghijklmnopqrstuvwxyz" j).bind fun y => catS x y).bind fun x => (cutSR st (some at_) none).bind fun y => catS x y) = .ok (wordAt st.cps.toList at_.toNat (abc.getD j.toNat 0)) ∧ isW (wordAt st.cps.toList at_.toNat (abc.getD j.toNat 0)) = true := by
  have z : st.length ≤ sizeLine := by rw [sizeLine_eq]; omega
  have e1 : (cutS st none (some at_)).cps.toList = st.cps.toList.take at_.toNat := by rw [cutS_cps, cutL_take _ a0]
  have e2 : (cutS st (some at_) none).cps.toList = st.cps.toList.drop at_.toNat := by rw [cutS_cps, cutL_drop _ a0]
  have l1 : (cutS st none (some at_)).length ≤ 7 := by rw [len_cps, e1, List.length_take]; rw [len_cps] at hs; omega
  have l2 : (cutS st (some at_) none).length ≤ 7 := by rw [len_cps, e2, List.length_drop]; rw [len_cps] at hs; omega
  have l3 : (lt j).length = 1 := rfl
  constructor
  · rw [cutSR_ok z, cutSR_ok z, atS_abc j0 j1]
    simp only [R.bind_ok]
    rw [catS_ok (by rw [l3, sizeLine_eq]; omega), R.bind_ok, catS_ok (by rw [len_append, l3, sizeLine_eq]; omega)]
    congr 1
    refine str_ext ?_
    rw [cps_append, cps_append, e1, e2]
    rfl
  · refine isW_of (cs := st.cps.toList.take at_.toNat ++ [abc.getD j.toNat 0] ++ st.cps.toList.drop at_.toNat) rfl ?_ ?_ ?_
    · simp only [List.length_append, List.length_singleton]; omega
    · simp only [List.length_append, List.length_singleton, List.length_take, List.length_drop]
      rw [len_cps] at hs
      omega
    · intro c hc
      simp only [List.mem_append, List.mem_singleton] at hc
      rcases hc with (h | h) | h
      · exact ha c (List.mem_of_mem_take h)
      · subst h; exact lt_mem j0 j1
      · exact ha c (List.mem_of_mem_drop h)
theorem mod26_inj {x i j : Int} (h0 : 0 ≤ i) (h1 : i < 26) (h2 : 0 ≤ j) (h3 : j < 26) (h : (x + 3 * i) % 26 = (x + 3 * j) % 26) : i = j := by omega
def waysF (w : Int) (rs : List NRow) : Int := rs.foldl (fun w r => w * (r.2.1.length : Int)) w
def goodRows : List NE → Int → List NRow → Prop
  | _, _, [] => True
  | net, w, r :: rs => RowSz r ∧ madeStep (net, w) r = .ok (net ++ [dueE r], w * (r.2.1.length : Int)) ∧ goodRows (net ++ [dueE r]) (w * (r.2.1.length : Int)) rs
theorem lookV_ok {vs : List Str} {u : Unit} (h : lookV vs = .ok u) : 2 ≤ vs.length ∧ vs.length ≤ 4 := by
  unfold lookV at h
  by_cases z : vs.length < 2 ∨ 4 < vs.length
  · rw [if_pos z] at h; cases h
  · omega
theorem step_ok {net net' : List NE} {w w' : Int} {r : NRow} (h : madeStep (net, w) r = .ok (net', w')) : 2 ≤ r.2.1.length ∧ r.2.1.length ≤ 4 ∧ w * (r.2.1.length : Int) ≤ 4096 := by
  unfold madeStep at h
  by_cases h1 : isW r.1 = true
  · rw [if_neg (by simpa using h1)] at h
    by_cases h2 : r.1 ∈ net.map (·.1)
    · rw [if_pos h2] at h; cases h
    · rw [if_neg h2] at h
      cases e1 : lookV r.2.1 with
      | bad => rw [e1] at h; cases h
      | ex c => rw [e1] at h; cases h
      | ok u =>
        rw [e1, R.bind_ok] at h
        cases e2 : lookE (net.map (·.1)) r.2.2.1 with
        | bad => rw [e2] at h; cases h
        | ex c => rw [e2] at h; cases h
        | ok u2 =>
          rw [e2, R.bind_ok] at h
          by_cases h3 : 4096 < w * (r.2.1.length : Int)
          · rw [if_pos h3] at h; cases h
          · exact ⟨(lookV_ok e1).1, (lookV_ok e1).2, by omega⟩
  · rw [if_pos h1] at h; cases h
theorem fold_made : ∀ (pre : List NRow) (net : List NE) (w : Int) (post : List NRow), goodRows net w pre → NetSz net → net.length + pre.length < sizeLine → 1 ≤ w → w ≤ 4096 →
    foldR T_made_b2 (pre ++ post) (net, w) = foldR T_made_b2 post (net ++ pre.map dueE, waysF w pre) ∧ NetSz (net ++ pre.map dueE) ∧ 1 ≤ waysF w pre ∧ waysF w pre ≤ 4096
  | [], net, w, post, _, hn, _, h1, h2 => by
    simp only [List.nil_append, List.map_nil, List.append_nil]
    exact ⟨rfl, hn, h1, h2⟩
  | r :: pre, net, w, post, ⟨g1, g2, g3⟩, hn, hl, h1, h2 => by
    obtain ⟨a, b, c⟩ := step_ok g2
    simp only [List.length_cons] at hl
    have hw : 1 ≤ w * (r.2.1.length : Int) := by
      have := Int.mul_le_mul h1 (show (1 : Int) ≤ (r.2.1.length : Int) by omega) (by decide) (by omega)
      omega
    have hn' : NetSz (net ++ [dueE r]) := ⟨by simp; omega, fun e he => by
      rw [List.mem_append, List.mem_singleton] at he
      rcases he with he | rfl
      · exact hn.vs e he
      · show 1 ≤ r.2.1.length ∧ r.2.1.length ≤ 4
        omega⟩
    obtain ⟨i1, i2, i3, i4⟩ := fold_made pre (net ++ [dueE r]) (w * (r.2.1.length : Int)) post g3 hn' (by simp; omega) hw c
    rw [List.cons_append, foldR, T_made_b2_eq g1 hn h1 h2, g2, R.bind_ok]
    have e : net ++ (r :: pre).map dueE = net ++ [dueE r] ++ pre.map dueE := by simp
    rw [e]
    exact ⟨i1, i2, i3, i4⟩
theorem netSz_nil : NetSz [] := ⟨by decide, fun _ h => nomatch h⟩
theorem T_made_fold {rows : List NRow} (h1 : 1 ≤ rows.length) (h2 : rows.length ≤ 10) : T_made rows = (foldR T_made_b2 rows ([], 1)).bind fun y => .ok y.1 := by
  unfold T_made
  rw [show (decide ((rows.length : Int) < 1) || decide ((10 : Int) < (rows.length : Int))) = false by simp; omega]
  simp only [R.bind_ok, Bool.false_eq_true, if_false]
theorem T_made_ok {rows : List NRow} (h1 : 1 ≤ rows.length) (h2 : rows.length ≤ 10) (g : goodRows [] 1 rows) : T_made rows = .ok (rows.map dueE) := by
  rw [T_made_fold h1 h2]
  have := (fold_made rows [] 1 [] g netSz_nil (by rw [sizeLine_eq]; simp; omega) (by decide) (by decide)).1
  rw [List.append_nil] at this
  rw [this]
  rfl
theorem goodRows_snoc : ∀ (pre : List NRow) (net : List NE) (w : Int) (r : NRow), goodRows net w pre → RowSz r → madeStep (net ++ pre.map dueE, waysF w pre) r = .ok (net ++ pre.map dueE ++ [dueE r], waysF w pre * (r.2.1.length : Int)) → goodRows net w (pre ++ [r])
  | [], net, w, r, _, hr, h => by
    simp only [List.map_nil, List.append_nil] at h
    exact ⟨hr, h, trivial⟩
  | p :: pre, net, w, r, ⟨g1, g2, g3⟩, hr, h => by
    refine ⟨g1, g2, goodRows_snoc pre _ _ r g3 hr ?_⟩
    have e : net ++ (p :: pre).map dueE = net ++ [dueE p] ++ pre.map dueE := by simp
    rw [e] at h
    exact h
structure GoodR (net : List NE) (w : Int) (r : NRow) : Prop where
  nm : isW r.1 = true
  new : r.1 ∉ net.map (·.1)
  vl : 2 ≤ r.2.1.length ∧ r.2.1.length ≤ 4
  vw : r.2.1.all isW = true
  vn : r.2.1.Nodup
  el : r.2.2.1.length ≤ 3
  em : (r.2.2.1.all fun e => decide (e ∈ net.map (·.1))) = true
  en : r.2.2.1.Nodup
  ws : w * (r.2.1.length : Int) ≤ 4096
  tb : tabOk r.2.2.2 (choicesF net r.2.2.1) (r.2.1.length : Int) = true
theorem GoodR.v {net : List NE} {w : Int} {r : NRow} (g : GoodR net w r) : lookV r.2.1 = .ok () := by
  unfold lookV
  rw [if_neg (by have := g.vl; omega), if_neg (by simpa using g.vw), if_neg (by simpa using g.vn)]
theorem GoodR.e {net : List NE} {w : Int} {r : NRow} (g : GoodR net w r) : lookE (net.map (·.1)) r.2.2.1 = .ok () := by
  unfold lookE
  rw [if_neg (by have := g.el; omega), if_neg (by simpa using g.em), if_neg (by simpa using g.en)]
theorem GoodR.step {net : List NE} {w : Int} {r : NRow} (g : GoodR net w r) : madeStep (net, w) r = .ok (net ++ [dueE r], w * (r.2.1.length : Int)) := by
  unfold madeStep
  rw [if_neg (by simpa using g.nm), if_neg g.new, g.v, R.bind_ok, g.e, R.bind_ok, if_neg (by have := g.ws; simp only; omega), if_neg (by simpa using g.tb)]
theorem cmpR_id {α : Type} (l : List α) : cmpR (fun _ => R.ok true) (fun x : α => R.ok x) l = .ok l := by
  have := cmpR_map (g := fun x : α => R.ok x) (f := fun x : α => x) (l := l) fun _ _ => rfl
  rw [List.map_id'] at this
  exact this
theorem T_law_copied_eq {rows : List NRow} (h : rows.length ≤ sizeLine) (ht : ∀ r ∈ rows, r.2.2.2.length ≤ sizeLine) : T_law_copied rows = .ok rows := by
  unfold T_law_copied
  rw [R.bind_ok, cmpR_map (f := fun r : NRow => r) fun r hr => by
    simp only [R.bind_ok, cmpR_id, fitN_ok (ht r hr)], R.bind_ok, List.map_id', fitN_ok h]
theorem T_law_due_eq {rows : List NRow} (h : rows.length ≤ sizeLine) (ht : ∀ r ∈ rows, r.2.2.2.length ≤ sizeLine ∧ r.2.2.2 ≠ []) : T_law_due rows = .ok (rows.map dueE) := by
  unfold T_law_due
  simp only [R.bind_ok]
  have go : ∀ (rs : List NRow) (acc : List NE), acc.length + rs.length ≤ sizeLine → (∀ r ∈ rs, r.2.2.2.length ≤ sizeLine ∧ r.2.2.2 ≠ []) → foldR T_law_due_b1 rs acc = .ok (acc ++ rs.map dueE) := fun rs => by
    induction rs with
    | nil => intro acc _ _; rw [List.map_nil, List.append_nil]; rfl
    | cons r rs ih =>
      intro acc hl ht
      obtain ⟨h1, h2⟩ := ht r (by simp)
      rw [List.length_cons] at hl
      obtain ⟨nm, vs, es, tb⟩ := r
      cases tb with
      | nil => exact (h2 rfl).elim
      | cons t0 tb =>
        have a0 : atR (t0 :: tb) 0 = .ok t0 := atR_nat (k := 0) rfl
        have := ih (acc ++ [dueE (nm, vs, es, t0 :: tb)]) (by simp; omega) fun r hr => ht r (by simp [hr])
        rw [foldR, T_law_due_b1]
        simp only [R.bind_ok, cmpR_id, fitN_ok h1, a0]
        rw [appR_ok (by omega), R.bind_ok, R.bind_ok]
        rw [List.map_cons, ← List.append_cons] at *
        exact this
  have := go rows [] (by simpa using h) ht
  rw [List.nil_append] at this
  rw [this]
  rfl
def alD : Nat → D → Bool
  | _, .int _ => true
  | _, .str _ => true
  | n + 1, .tup ds => ds.all (alD n)
  | n + 1, .lst ds => ds.all (alD n)
  | _, _ => false
theorem zip_self_mem {α : Type} : ∀ {l : List α} {p : α × α}, p ∈ l.zip l → p.1 ∈ l ∧ p.2 = p.1
  | [], _, h => nomatch h
  | a :: l, p, h => by
    rw [List.zip_cons_cons, List.mem_cons] at h
    rcases h with rfl | h
    · exact ⟨by simp, rfl⟩
    · have := zip_self_mem h
      exact ⟨by simp [this.1], this.2⟩
theorem for_alike {TR : D → D → R Bool} : ∀ l : List (D × D), (∀ p ∈ l, TR p.1 p.2 = .ok true) → forR (T_law_alike_b1 TR) l () = .ok (.nx ())
  | [], _ => rfl
  | p :: l, h => by
    rw [forR, T_law_alike_b1, h p (by simp)]
    simp only [R.bind_ok, Bool.not_true, Bool.false_eq_true, if_false, TF.thn_nx]
    exact for_alike l fun q hq => h q (by simp [hq])
theorem alike_int (TR : D → D → R Bool) (i : Int) : B_law_alike TR (.int i) (.int i) = .ok true := by
  have e : eqAR (.int i) (.int i) = .ok true := by unfold eqAR; rw [eqD_int]; simp [ofO]
  unfold B_law_alike eA
  simp only [e, show isiR "bool" (.int i) = .ok false from rfl, show isiR "str" (.int i) = .ok false from rfl, show isiR "int" (.int i) = .ok true from rfl, show isi2R "int" "str" (.int i) = .ok true from rfl, R.bind_ok, if_true, Bool.false_eq_true, if_false, decide_true, Bool.not_true]
theorem alike_str (TR : D → D → R Bool) (i : Str) : B_law_alike TR (.str i) (.str i) = .ok true := by
  have e : eqAR (.str i) (.str i) = .ok true := by unfold eqAR; rw [eqD_str]; simp [ofO]
  unfold B_law_alike eA
  simp only [e, show isiR "bool" (.str i) = .ok false from rfl, show isiR "str" (.str i) = .ok true from rfl, show isi2R "int" "str" (.str i) = .ok true from rfl, R.bind_ok, if_true, Bool.false_eq_true, if_false, decide_true, Bool.not_true]
theorem alike_tup (TR : D → D → R Bool) (ds : List D) (h : ∀ d ∈ ds, TR d d = .ok true) : B_law_alike TR (.tup ds) (.tup ds) = .ok true := by
  have f := for_alike (TR := TR) (ds.zip ds) fun p hp => by
    obtain ⟨a, b⟩ := zip_self_mem hp
    rw [b]
    exact h _ a
  unfold B_law_alike eA
  simp only [show isiR "bool" (.tup ds) = .ok false from rfl, show isiR "str" (.tup ds) = .ok false from rfl, show isiR "int" (.tup ds) = .ok false from rfl, show isiR "list" (.tup ds) = .ok false from rfl, show isi2R "list" "tuple" (.tup ds) = .ok true from rfl, show zipAR (.tup ds) (.tup ds) = .ok (ds.zip ds) from rfl, show lenA (.tup ds) = .ok (ds.length : Int) from rfl, f, R.bind_ok, if_true, Bool.false_eq_true, if_false, decide_true, Bool.not_true, TF.thx_nx]
theorem alike_lst (TR : D → D → R Bool) (ds : List D) (h : ∀ d ∈ ds, TR d d = .ok true) : B_law_alike TR (.lst ds) (.lst ds) = .ok true := by
  have f := for_alike (TR := TR) (ds.zip ds) fun p hp => by
    obtain ⟨a, b⟩ := zip_self_mem hp
    rw [b]
    exact h _ a
  unfold B_law_alike eA
  simp only [show isiR "bool" (.lst ds) = .ok false from rfl, show isiR "str" (.lst ds) = .ok false from rfl, show isiR "int" (.lst ds) = .ok false from rfl, show isiR "list" (.lst ds) = .ok true from rfl, show isi2R "list" "tuple" (.lst ds) = .ok true from rfl, show zipAR (.lst ds) (.lst ds) = .ok (ds.zip ds) from rfl, show lenA (.lst ds) = .ok (ds.length : Int) from rfl, f, R.bind_ok, if_true, Bool.false_eq_true, if_false, decide_true, Bool.not_true, TF.thx_nx]
theorem alike_self : ∀ (k : Nat) (d : D), alD k d = true → T_law_alike (k + 1) d d = .ok true := fun k => by
  induction k with
  | zero =>
    intro d h
    cases d with
    | int i => exact alike_int _ i
    | str i => exact alike_str _ i
    | _ => simp [alD] at h
  | succ k ih =>
    intro d h
    cases d with
    | int i => exact alike_int _ i
    | str i => exact alike_str _ i
    | tup ds => exact alike_tup _ ds fun d hd => ih d (List.all_eq_true.mp (show ds.all (alD k) = true from h) d hd)
    | lst ds => exact alike_lst _ ds fun d hd => ih d (List.all_eq_true.mp (show ds.all (alD k) = true from h) d hd)
    | _ => simp [alD] at h
theorem alD_T {α : Type} {f : α → D} {k : Nat} {l : List α} (h : ∀ x ∈ l, alD k (f x) = true) : alD (k + 1) (eT f l) = true := by
  show (l.map f).all (alD k) = true
  rw [List.all_eq_true]
  intro d hd
  obtain ⟨x, hx, rfl⟩ := List.mem_map.mp hd
  exact h x hx
theorem alD_int (k : Nat) (i : Int) : alD k (.int i) = true := by cases k <;> rfl
theorem alD_str (k : Nat) (i : Str) : alD k (.str i) = true := by cases k <;> rfl
abbrev eNet : List NE → D := eT (e5 D.str (eT D.str) (eT D.str) D.int (eT (eT D.int)))
theorem alD_net (net : List NE) : alD 7 (eNet net) = true := by
  refine alD_T fun e _ => ?_
  show [D.str e.1, eT D.str e.2.1, eT D.str e.2.2.1, D.int e.2.2.2.1, eT (eT D.int) e.2.2.2.2].all (alD 5) = true
  simp only [List.all_cons, List.all_nil, Bool.and_true, Bool.and_eq_true]
  exact ⟨alD_str _ _, alD_T fun _ _ => alD_str _ _, alD_T fun _ _ => alD_str _ _, alD_int _ _, alD_T fun _ _ => alD_T fun _ _ => alD_int _ _⟩
theorem alike_net (net : List NE) : T_law_alike 8 (eNet net) (eNet net) = .ok true := alike_self 7 _ (alD_net net)
abbrev eRows : List NRow → D := eL (e4 D.str (eL D.str) (eL D.str) (eL (eL D.int)))
structure RowPl (r : NRow) : Prop where
  nm : plD 5 (.str r.1) = true
  vs : ∀ v ∈ r.2.1, plD 5 (.str v) = true
  es : ∀ v ∈ r.2.2.1, plD 5 (.str v) = true
theorem plD_any (k : Nat) (z : Str) (h : plD 5 (.str z) = true) : plD k (.str z) = true := by rw [plD_str] at *; exact h
theorem pl_rows {rows : List NRow} (h : ∀ r ∈ rows, RowPl r) : plD 20 (eRows rows) = true := by
  refine plL fun r hr => ?_
  show [D.str r.1, eL D.str r.2.1, eL D.str r.2.2.1, eL (eL D.int) r.2.2.2].all (plD 18) = true
  simp only [List.all_cons, List.all_nil, Bool.and_true, Bool.and_eq_true]
  obtain ⟨a, b, c⟩ := h r hr
  exact ⟨plD_any _ _ a, plL fun v hv => plD_any _ _ (b v hv), plL fun v hv => plD_any _ _ (c v hv), plL fun _ _ => plL fun _ _ => plI _ _⟩
theorem tabOk_ne {table : List (List Int)} {a b : Int} (h : tabOk table a b = true) : table ≠ [] := by
  intro z
  subst z
  unfold tabOk at h
  simp at h
theorem step_tab {net : List NE} {w : Int} {r : NRow} {x : List NE × Int} (h : madeStep (net, w) r = .ok x) : r.2.2.2 ≠ [] := by
  unfold madeStep at h
  by_cases h1 : isW r.1 = true
  · rw [if_neg (by simpa using h1)] at h
    by_cases h2 : r.1 ∈ net.map (·.1)
    · rw [if_pos h2] at h; cases h
    · rw [if_neg h2] at h
      cases e1 : lookV r.2.1 with
      | bad => rw [e1] at h; cases h
      | ex c => rw [e1] at h; cases h
      | ok u =>
        rw [e1, R.bind_ok] at h
        cases e2 : lookE (net.map (·.1)) r.2.2.1 with
        | bad => rw [e2] at h; cases h
        | ex c => rw [e2] at h; cases h
        | ok u2 =>
          rw [e2, R.bind_ok] at h
          by_cases h3 : 4096 < w * (r.2.1.length : Int)
          · rw [if_pos h3] at h; cases h
          · rw [if_neg h3] at h
            by_cases h4 : tabOk r.2.2.2 (choicesF net r.2.2.1) (r.2.1.length : Int) = true
            · exact tabOk_ne h4
            · rw [if_pos h4] at h; cases h
  · rw [if_pos h1] at h; cases h
theorem good_tab : ∀ (rs : List NRow) (net : List NE) (w : Int), goodRows net w rs → ∀ r ∈ rs, r.2.2.2.length ≤ sizeLine ∧ r.2.2.2 ≠ []
  | [], _, _, _, _, h => nomatch h
  | p :: rs, net, w, ⟨g1, g2, g3⟩, r, h => by
    rw [List.mem_cons] at h
    rcases h with rfl | h
    · exact ⟨g1.tb, step_tab g2⟩
    · exact good_tab rs _ _ g3 r h
end OD
set_option Elab.async false
set_option linter.all false
set_option maxRecDepth 100000
set_option maxHeartbeats 4000000
set_option synthInstance.maxSize 1000
set_option synthInstance.maxHeartbeats 400000
namespace OD
open PySem PySem.Spec PyProof.Rows L2 L2.VL
def G_law_words : List D → R Fl := (sSeq (sAsg 2 (eC (.str "abcdefghijklmnopqrstuvwxyz"))) (sSeq (sIf (tVal (eOp gEq (eOp gMod (eVar 0) (eC (.int 3))) (eC (.int 0)))) (sRet (eComp (iRng rng1 (aCons (eVar 1) aNil)) (tgName 3) tTrue (eOp gMulS (eIx (eVar 2) (eOp gMod (eOp gFdiv (eVar 0) (eC (.int 3))) (eC (.int 26)))) (eOp gAdd (eVar 3) (eC (.int 1)))))) sNil) (sSeq (sAsg 4 (eOp gMod (eOp gFdiv (eVar 0) (eC (.int 3))) (eC (.int 8)))) (sSeq (sAsg 5 (eM1 gJoin (eC (.str "")) (eComp (iRng rng1 (aCons (eVar 4) aNil)) (tgName 3) tTrue (eIx (eVar 2) (eOp gMod (eOp gAdd (eOp gFdiv (eVar 0) (eC (.int 24))) (eOp gMul (eOp gAdd (eVar 3) (eC (.int 1))) (eOp gAdd (eVar 3) (eC (.int 5))))) (eC (.int 26))))))) (sSeq (sAsg 6 (eOp gMod (eOp gFdiv (eVar 0) (eC (.int 48))) (eOp gAdd (eVar 4) (eC (.int 1))))) (sRet (eComp (iRng rng1 (aCons (eVar 1) aNil)) (tgName 3) tTrue (eOp gAdd (eOp gAdd (eSlS (eVar 5) pNo (pAt (eVar 6))) (eIx (eVar 2) (eOp gMod (eOp gAdd (eOp gFdiv (eVar 0) (eC (.int 624))) (eOp gMul (eC (.int 3)) (eVar 3))) (eC (.int 26))))) (eSlS (eVar 5) (pAt (eVar 6)) pNo)))))))))
def M_law_words : List D → R D := runFr 7 (G_law_words)
def T_law_words (v_cell_here : Int) (v_many : Int) : R (List Str) := ((R.ok ("abcdefghijklmnopqrstuvwxyz" : Str)).bind fun (v_letters : Str) => ((R.ok (decide ((v_cell_here % (3 : Int)) = (0 : Int)))).bind fun b => if b then (((R.ok v_many).bind rngR1).bind fun l => (cmpR (fun (a1 : Int) => (R.ok true)) (fun (a1 : Int) => ((atSR v_letters ((v_cell_here / (3 : Int)) % (26 : Int))).bind fun x => (R.ok (a1 + (1 : Int))).bind fun y => mulSR x y)) l).bind fitN) else ((R.ok ()).bind fun (_ : Unit) => R.ok ()).bind fun _ => ((R.ok ((v_cell_here / (3 : Int)) % (8 : Int))).bind fun (v_size : Int) => (((R.ok ("" : Str)).bind fun x => (((R.ok v_size).bind rngR1).bind fun l => (cmpR (fun (a2 : Int) => (R.ok true)) (fun (a2 : Int) => ((R.ok v_letters).bind fun x => (((R.ok (v_cell_here / (24 : Int))).bind fun x => (mulR (a2 + (1 : Int)) (a2 + (5 : Int))).bind fun y => R.ok (x + y)).bind fun x => R.ok (x % (26 : Int))).bind fun y => atSR x y)) l).bind fitN).bind fun y => joinR x y).bind fun (v_stem : Str) => ((modR (v_cell_here / (48 : Int)) (v_size + (1 : Int))).bind fun (v_at : Int) => (((R.ok v_many).bind rngR1).bind fun l => (cmpR (fun (a3 : Int) => (R.ok true)) (fun (a3 : Int) => (((cutSR v_stem none (some v_at)).bind fun x => (atSR v_letters (((v_cell_here / (624 : Int)) + ((3 : Int) * a3)) % (26 : Int))).bind fun y => catS x y).bind fun x => (cutSR v_stem (some v_at) none).bind fun y => catS x y)) l).bind fitN))))))
theorem sim_law_words (v_cell_here : Int) (v_many : Int) : Ref (M_law_words [D.int v_cell_here, D.int v_many]) ((T_law_words v_cell_here v_many).map (eL D.str)) := by
  unfold M_law_words
  exact run_xr (n := 7) (p := [some (D.int v_cell_here), some (D.int v_many), none, none, none, none, none]) (by unfold G_law_words T_law_words; exact (sx_seq (sn_asg (i := 2) (ea := D.str) (P := fun (v_letters : Str) => [some (D.int v_cell_here), some (D.int v_many), some (D.str v_letters), none, none, none, none]) (by exact (SP.se (ea := D.str) (x := ("abcdefghijklmnopqrstuvwxyz" : Str)) sp_c))) (fun (v_letters : Str) => (sx_ifT (by exact (SCp.sc (sc_val (sp_op (k := gEq) (d := D.bl (decide ((v_cell_here % (3 : Int)) = (0 : Int)))) rfl (sp_op (d := .int (v_cell_here % (3 : Int))) (g_modC v_cell_here 3) (sp_var (i := 0)) sp_c) sp_c)))) (sx_ret (by exact (se_comp (Pt := fun (a1 : Int) => [some (D.int v_cell_here), some (D.int v_many), some (D.str v_letters), some (D.int a1), none, none, none]) (si_rng1 (fs := aNil) (SP.se (ea := D.int) (x := v_many) (sp_var (i := 1)))) (TGs.le (p' := [some (D.int v_cell_here), some (D.int v_many), some (D.str v_letters), none, none, none, none]) ((show PLe [some (D.int v_cell_here), some (D.int v_many), some (D.str v_letters), none, none, none, none] _ by exact And.intro rfl (And.intro rfl (And.intro rfl (trivial))))) tg_name) (fun a1 => (by exact (SCp.sc sc_true))) (fun a1 => (by exact (se_op (k := gMulS) (ea := D.str) (eb := D.int) (ec := D.str) (h := fun x y => mulSR x y) (fun x y => k_mulS x y) (se_ixP (ec := D.str) (k_atS v_letters ((v_cell_here / (3 : Int)) % (26 : Int))) (sp_var (i := 2)) (sp_op (d := .int ((v_cell_here / (3 : Int)) % (26 : Int))) (g_modC (v_cell_here / (3 : Int)) 26) (sp_op (d := .int (v_cell_here / (3 : Int))) (g_divC v_cell_here 3) (sp_var (i := 0)) sp_c) sp_c)) (SP.se (ea := D.int) (x := (a1 + (1 : Int))) (sp_op (k := gAdd) (d := D.int (a1 + (1 : Int))) rfl (sp_var (i := 3)) sp_c)))))))) (sn_yield (P := fun (_ : Unit) => [some (D.int v_cell_here), some (D.int v_many), some (D.str v_letters), none, none, none, none]) sn_nil (fun (_ : Unit) => ()) (fun (_ : Unit) => by exact And.intro rfl (And.intro rfl (And.intro rfl (trivial))))) (fun _ => (sx_seq (sn_asg (i := 4) (ea := D.int) (P := fun (v_size : Int) => [some (D.int v_cell_here), some (D.int v_many), some (D.str v_letters), none, some (D.int v_size), none, none]) (by exact (SP.se (ea := D.int) (x := ((v_cell_here / (3 : Int)) % (8 : Int))) (sp_op (d := .int ((v_cell_here / (3 : Int)) % (8 : Int))) (g_modC (v_cell_here / (3 : Int)) 8) (sp_op (d := .int (v_cell_here / (3 : Int))) (g_divC v_cell_here 3) (sp_var (i := 0)) sp_c) sp_c)))) (fun (v_size : Int) => (sx_seq (sn_asg (i := 5) (ea := D.str) (P := fun (v_stem : Str) => [some (D.int v_cell_here), some (D.int v_many), some (D.str v_letters), none, some (D.int v_size), some (D.str v_stem), none]) (by exact (se_m1 (ec := D.str) (h := fun x y => joinR x y) (fun x y => k_joinL x y) (SP.se (ea := D.str) (x := ("" : Str)) sp_c) (se_comp (Pt := fun (a2 : Int) => [some (D.int v_cell_here), some (D.int v_many), some (D.str v_letters), some (D.int a2), some (D.int v_size), none, none]) (si_rng1 (fs := aNil) (SP.se (ea := D.int) (x := v_size) (sp_var (i := 4)))) (TGs.le (p' := [some (D.int v_cell_here), some (D.int v_many), some (D.str v_letters), none, some (D.int v_size), none, none]) ((show PLe [some (D.int v_cell_here), some (D.int v_many), some (D.str v_letters), none, some (D.int v_size), none, none] _ by exact And.intro rfl (And.intro rfl (And.intro rfl (And.intro rfl (trivial)))))) tg_name) (fun a2 => (by exact (SCp.sc sc_true))) (fun a2 => (by exact (se_ix (ea := D.str) (eb := D.int) (ec := D.str) (h := fun x y => atSR x y) (fun x y => k_atS x y) (SP.se (ea := D.str) (x := v_letters) (sp_var (i := 2))) (se_opC (ec := D.int) (h := fun x => R.ok (x % (26 : Int))) (se_op (k := gAdd) (ea := D.int) (eb := D.int) (ec := D.int) (h := fun (x : Int) (y : Int) => R.ok (x + y)) (fun x y => Ref.of rfl) (SP.se (ea := D.int) (x := (v_cell_here / (24 : Int))) (sp_op (d := .int (v_cell_here / (24 : Int))) (g_divC v_cell_here 24) (sp_var (i := 0)) sp_c)) (se_opP (k := gMul) (ec := D.int) (k_mul (a2 + (1 : Int)) (a2 + (5 : Int))) (sp_op (k := gAdd) (d := D.int (a2 + (1 : Int))) rfl (sp_var (i := 3)) sp_c) (sp_op (k := gAdd) (d := D.int (a2 + (5 : Int))) rfl (sp_var (i := 3)) sp_c))) sp_c (fun x => Ref.of (by rw [g_modC x 26]; rfl)))))))))) (fun (v_stem : Str) => (sx_seq (sn_asg (i := 6) (ea := D.int) (P := fun (v_at : Int) => [some (D.int v_cell_here), some (D.int v_many), some (D.str v_letters), none, some (D.int v_size), some (D.str v_stem), some (D.int v_at)]) (by exact (se_opP (k := gMod) (ec := D.int) (k_mod (v_cell_here / (48 : Int)) (v_size + (1 : Int))) (sp_op (d := .int (v_cell_here / (48 : Int))) (g_divC v_cell_here 48) (sp_var (i := 0)) sp_c) (sp_op (k := gAdd) (d := D.int (v_size + (1 : Int))) rfl (sp_var (i := 4)) sp_c)))) (fun (v_at : Int) => (sx_ret (by exact (se_comp (Pt := fun (a3 : Int) => [some (D.int v_cell_here), some (D.int v_many), some (D.str v_letters), some (D.int a3), some (D.int v_size), some (D.str v_stem), some (D.int v_at)]) (si_rng1 (fs := aNil) (SP.se (ea := D.int) (x := v_many) (sp_var (i := 1)))) (TGs.le (p' := [some (D.int v_cell_here), some (D.int v_many), some (D.str v_letters), none, some (D.int v_size), some (D.str v_stem), some (D.int v_at)]) ((show PLe [some (D.int v_cell_here), some (D.int v_many), some (D.str v_letters), none, some (D.int v_size), some (D.str v_stem), some (D.int v_at)] _ by exact And.intro rfl (And.intro rfl (And.intro rfl (And.intro rfl (And.intro rfl (And.intro rfl (trivial)))))))) tg_name) (fun a3 => (by exact (SCp.sc sc_true))) (fun a3 => (by exact (se_op (k := gAdd) (ea := D.str) (eb := D.str) (ec := D.str) (h := fun x y => catS x y) (fun x y => k_catS x y) (se_op (k := gAdd) (ea := D.str) (eb := D.str) (ec := D.str) (h := fun x y => catS x y) (fun x y => k_catS x y) (se_slSp (sp_var (i := 5)) sop_no (sop_at (sp_var (i := 6)))) (se_ixP (ec := D.str) (k_atS v_letters (((v_cell_here / (624 : Int)) + ((3 : Int) * a3)) % (26 : Int))) (sp_var (i := 2)) (sp_op (d := .int (((v_cell_here / (624 : Int)) + ((3 : Int) * a3)) % (26 : Int))) (g_modC ((v_cell_here / (624 : Int)) + ((3 : Int) * a3)) 26) (sp_op (k := gAdd) (d := D.int ((v_cell_here / (624 : Int)) + ((3 : Int) * a3))) rfl (sp_op (d := .int (v_cell_here / (624 : Int))) (g_divC v_cell_here 624) (sp_var (i := 0)) sp_c) (sp_op (d := .int ((3 : Int) * a3)) (g_mulL 3 a3) sp_c (sp_var (i := 3)))) sp_c))) (se_slSp (sp_var (i := 5)) (sop_at (sp_var (i := 6))) sop_no)))))))))))))))))) (And.intro rfl (And.intro rfl (trivial)))
def G_law_cuts : List D → R Fl := (sSeq (sAsg 3 (eLst aNil)) (sSeq (sAsg 4 (eVar 2)) (sSeq (sFor (iRng rng1 (aCons (eOp gSub (eVar 1) (eC (.int 1))) aNil)) (tgName 5) (sSeq (sAsg 6 (eOp gMod (eOp gMod (eOp gMul (eVar 0) (eOp gAdd (eC (.int 48271)) (eOp gMul (eOp gMul (eC (.int 7)) (eVar 5)) (eVar 5)))) (eC (.int 2147483647))) (eOp gAdd (eVar 4) (eC (.int 1))))) (sSeq (sIf (tVal (eOp gEq (eOp gMod (eVar 0) (eC (.int 3))) (eC (.int 0)))) (sAsg 6 (eIx (eLst (aCons (eC (.int 0)) (aCons (eVar 4) aNil))) (eOp gMod (eOp gFdiv (eVar 0) (eOp gAdd (eC (.int 3)) (eVar 5))) (eC (.int 2))))) sNil) (sSeq (sOwn 3 gApp (aCons (eVar 6) aNil)) (sAsg 4 (eOp gSub (eVar 4) (eVar 6))))))) (sRet (eCatL (eVar 3) (eLst (aCons (eVar 4) aNil)))))))
def M_law_cuts : List D → R D := runFr 7 (G_law_cuts)
def T_law_cuts_b1 (v_cell_here : Int) (s1 : ((List Int) × Int)) (a2 : Int) : R ((List Int) × Int) := (((((R.ok v_cell_here).bind fun x => ((R.ok (48271 : Int)).bind fun x => (mulR ((7 : Int) * a2) a2).bind fun y => R.ok (x + y)).bind fun y => mulR x y).bind fun x => R.ok (x % (2147483647 : Int))).bind fun x => (R.ok (s1.2 + (1 : Int))).bind fun y => modR x y).bind fun (v_one : Int) => (((R.ok (decide ((v_cell_here % (3 : Int)) = (0 : Int)))).bind fun b => if b then (((R.ok [(0 : Int), s1.2]).bind fun x => ((divR v_cell_here ((3 : Int) + a2)).bind fun x => R.ok (x % (2 : Int))).bind fun y => atR x y).bind fun (v_one : Int) => R.ok v_one) else ((R.ok ()).bind fun (_ : Unit) => R.ok v_one)).bind fun (v_one : Int) => ((appR s1.1 v_one).bind fun (v_numbers : (List Int)) => ((R.ok (s1.2 - v_one)).bind fun (v_left : Int) => R.ok (v_numbers, v_left)))))
def T_law_cuts (v_cell_here : Int) (v_size : Int) (v_many : Int) : R (List Int) := ((R.ok ([] : (List Int))).bind fun (v_numbers : (List Int)) => ((R.ok v_many).bind fun (v_left : Int) => ((((R.ok (v_size - (1 : Int))).bind rngR1).bind fun l => foldR (T_law_cuts_b1 v_cell_here) l (v_numbers, v_left)).bind fun (y3 : ((List Int) × Int)) => ((R.ok y3.1).bind fun x => (R.ok [y3.2]).bind fun y => catR x y))))
theorem sim_law_cuts (v_cell_here : Int) (v_size : Int) (v_many : Int) : Ref (M_law_cuts [D.int v_cell_here, D.int v_size, D.int v_many]) ((T_law_cuts v_cell_here v_size v_many).map (eL D.int)) := by
  unfold M_law_cuts
  exact run_xr (n := 7) (p := [some (D.int v_cell_here), some (D.int v_size), some (D.int v_many), none, none, none, none]) (by unfold G_law_cuts T_law_cuts; exact (sx_seq (sn_asg (i := 3) (ea := (eL D.int)) (P := fun (v_numbers : (List Int)) => [some (D.int v_cell_here), some (D.int v_size), some (D.int v_many), some ((eL D.int) v_numbers), none, none, none]) (by exact (SP.se (ea := (eL D.int)) (x := ([] : (List Int))) (sp_lst sa_nil)))) (fun (v_numbers : (List Int)) => (sx_seq (sn_asg (i := 4) (ea := D.int) (P := fun (v_left : Int) => [some (D.int v_cell_here), some (D.int v_size), some (D.int v_many), some ((eL D.int) v_numbers), some (D.int v_left), none, none]) (by exact (SP.se (ea := D.int) (x := v_many) (sp_var (i := 2))))) (fun (v_left : Int) => (sx_seq (sn_for (P := fun (s1 : ((List Int) × Int)) => [some (D.int v_cell_here), some (D.int v_size), some (D.int v_many), some ((eL D.int) s1.1), some (D.int s1.2), none, none]) (Pt := fun (s1 : ((List Int) × Int)) (a2 : Int) => [some (D.int v_cell_here), some (D.int v_size), some (D.int v_many), some ((eL D.int) s1.1), some (D.int s1.2), some (D.int a2), none]) (st := (T_law_cuts_b1 v_cell_here)) (v_numbers, v_left) (si_rng1 (fs := aNil) (SP.se (ea := D.int) (x := (v_size - (1 : Int))) (sp_op (k := gSub) (d := D.int (v_size - (1 : Int))) rfl (sp_var (i := 1)) sp_c))) (by exact And.intro rfl (And.intro rfl (And.intro rfl (And.intro rfl (And.intro rfl (trivial)))))) (fun _ => tg_name) (fun s1 a2 => by unfold T_law_cuts_b1; exact (sn_seq (sn_asg (i := 6) (ea := D.int) (P := fun (v_one : Int) => [some (D.int v_cell_here), some (D.int v_size), some (D.int v_many), some ((eL D.int) s1.1), some (D.int s1.2), some (D.int a2), some (D.int v_one)]) (by exact (se_op (k := gMod) (ea := D.int) (eb := D.int) (ec := D.int) (h := fun x y => modR x y) (fun x y => k_mod x y) (se_opC (ec := D.int) (h := fun x => R.ok (x % (2147483647 : Int))) (se_op (k := gMul) (ea := D.int) (eb := D.int) (ec := D.int) (h := fun x y => mulR x y) (fun x y => k_mul x y) (SP.se (ea := D.int) (x := v_cell_here) (sp_var (i := 0))) (se_op (k := gAdd) (ea := D.int) (eb := D.int) (ec := D.int) (h := fun (x : Int) (y : Int) => R.ok (x + y)) (fun x y => Ref.of rfl) (SP.se (ea := D.int) (x := (48271 : Int)) sp_c) (se_opP (k := gMul) (ec := D.int) (k_mul ((7 : Int) * a2) a2) (sp_op (d := .int ((7 : Int) * a2)) (g_mulL 7 a2) sp_c (sp_var (i := 5))) (sp_var (i := 5))))) sp_c (fun x => Ref.of (by rw [g_modC x 2147483647]; rfl))) (SP.se (ea := D.int) (x := (s1.2 + (1 : Int))) (sp_op (k := gAdd) (d := D.int (s1.2 + (1 : Int))) rfl (sp_var (i := 4)) sp_c))))) (fun (v_one : Int) => (sn_seq (sn_if (by exact (SCp.sc (sc_val (sp_op (k := gEq) (d := D.bl (decide ((v_cell_here % (3 : Int)) = (0 : Int)))) rfl (sp_op (d := .int (v_cell_here % (3 : Int))) (g_modC v_cell_here 3) (sp_var (i := 0)) sp_c) sp_c)))) (sn_yield (P := fun (v_one : Int) => [some (D.int v_cell_here), some (D.int v_size), some (D.int v_many), some ((eL D.int) s1.1), some (D.int s1.2), some (D.int a2), some (D.int v_one)]) (sn_asg (i := 6) (ea := D.int) (P := fun (v_one : Int) => [some (D.int v_cell_here), some (D.int v_size), some (D.int v_many), some ((eL D.int) s1.1), some (D.int s1.2), some (D.int a2), some (D.int v_one)]) (by exact (se_ix (ea := (eL D.int)) (eb := D.int) (ec := D.int) (h := fun x y => atR x y) (fun x y => k_atL x y) (SP.se (ea := (eL D.int)) (x := [(0 : Int), s1.2]) (sp_lst (sa_cons (d := (D.int (0 : Int))) sp_c (sa_cons (d := (D.int s1.2)) (sp_var (i := 4)) sa_nil)))) (se_opC (ec := D.int) (h := fun x => R.ok (x % (2 : Int))) (se_opP (k := gFdiv) (ec := D.int) (k_fdiv v_cell_here ((3 : Int) + a2)) (sp_var (i := 0)) (sp_op (k := gAdd) (d := D.int ((3 : Int) + a2)) rfl sp_c (sp_var (i := 5)))) sp_c (fun x => Ref.of (by rw [g_modC x 2]; rfl)))))) (fun (v_one : Int) => v_one) (fun (v_one : Int) => by exact And.intro rfl (And.intro rfl (And.intro rfl (And.intro rfl (And.intro rfl (And.intro rfl (And.intro rfl (trivial))))))))) (sn_yield (P := fun (v_one : Int) => [some (D.int v_cell_here), some (D.int v_size), some (D.int v_many), some ((eL D.int) s1.1), some (D.int s1.2), some (D.int a2), some (D.int v_one)]) sn_nil (fun (_ : Unit) => v_one) (fun (_ : Unit) => by exact And.intro rfl (And.intro rfl (And.intro rfl (And.intro rfl (And.intro rfl (And.intro rfl (And.intro rfl (trivial)))))))))) (fun (v_one : Int) => (sn_seq (sn_appP (i := 3) (l := s1.1) (x := v_one) (ea := D.int) (P := fun (v_numbers : (List Int)) => [some (D.int v_cell_here), some (D.int v_size), some (D.int v_many), some ((eL D.int) v_numbers), some (D.int s1.2), some (D.int a2), some (D.int v_one)]) rfl (sp_var (i := 6))) (fun (v_numbers : (List Int)) => (sn_yield (P := fun (s1 : ((List Int) × Int)) => [some (D.int v_cell_here), some (D.int v_size), some (D.int v_many), some ((eL D.int) s1.1), some (D.int s1.2), none, none]) (sn_asg (i := 4) (ea := D.int) (P := fun (v_left : Int) => [some (D.int v_cell_here), some (D.int v_size), some (D.int v_many), some ((eL D.int) v_numbers), some (D.int v_left), some (D.int a2), some (D.int v_one)]) (by exact (SP.se (ea := D.int) (x := (s1.2 - v_one)) (sp_op (k := gSub) (d := D.int (s1.2 - v_one)) rfl (sp_var (i := 4)) (sp_var (i := 6)))))) (fun (v_left : Int) => (v_numbers, v_left)) (fun (v_left : Int) => by exact And.intro rfl (And.intro rfl (And.intro rfl (And.intro rfl (And.intro rfl (trivial))))))))))))))) (fun (y3 : ((List Int) × Int)) => (sx_ret (by exact (se_catL (SP.se (ea := (eL D.int)) (x := y3.1) (sp_var (i := 3))) (SP.se (ea := (eL D.int)) (x := [y3.2]) (sp_lst (sa_cons (d := (D.int y3.2)) (sp_var (i := 4)) sa_nil))))))))))))) (And.intro rfl (And.intro rfl (And.intro rfl (trivial))))
def G_law_shape : List D → R Fl := (sSeq (sAsg 5 (eCall M_law_cell (aCons (eVar 0) (aCons (eOp gAdd (eOp gAdd (eVar 1) (eC (.int 2))) (eOp gMul (eC (.int 2)) (eVar 2))) aNil)))) (sSeq (sAsg 6 (eB gMin (aCons (eOp gAdd (eC (.int 2)) (eIx (eLst (aCons (eC (.int 0)) (aCons (eC (.int 0)) (aCons (eC (.int 1)) (aCons (eC (.int 0)) (aCons (eC (.int 2)) (aCons (eC (.int 0)) aNil))))))) (eOp gMod (eVar 5) (eC (.int 6))))) (aCons (eB gMax (aCons (eC (.int 2)) (aCons (eVar 4) aNil))) aNil)))) (sSeq (sAsg 7 (eSlL .fr (eComp (iRng rng1 (aCons (eVar 2) aNil)) (tgName 8) (tAndB (tVal (eOp gEq (eOp gMod (eOp gFdiv (eOp gFdiv (eVar 5) (eC (.int 6))) (eOp gShl (eC (.int 1)) (eVar 8))) (eC (.int 2))) (eC (.int 1)))) (tVal (eOp gGt (eOp gMod (eOp gFdiv (eVar 5) (eC (.int 7))) (eC (.int 4))) (eC (.int 0))))) (eIx (eVar 3) (eVar 8))) pNo (pAt (eC (.int 3))))) (sSeq (sAsg 9 (eOp gMod (eOp gFdiv (eVar 5) (eC (.int 11))) (eB gMax (aCons (eC (.int 1)) (aCons (eB gLen (aCons (eVar 7) aNil)) aNil))))) (sSeq (sAsg 7 (eCatL (eSlL .im (eVar 7) (pAt (eVar 9)) pNo) (eSlL .im (eVar 7) pNo (pAt (eVar 9))))) (sSeq (sIf (tVal (eOp gEq (eOp gMod (eOp gFdiv (eVar 5) (eC (.int 5))) (eC (.int 2))) (eC (.int 1)))) (sAsg 7 (eComp (iRevL (eVar 7)) (tgName 10) tTrue (eVar 10))) sNil) (sSeq (sAsg 11 (eCall M_law_cell (aCons (eVar 0) (aCons (eOp gAdd (eOp gAdd (eVar 1) (eC (.int 3))) (eOp gMul (eC (.int 2)) (eVar 2))) aNil)))) (sSeq (sAsg 12 (eCall M_law_cell (aCons (eVar 0) (aCons (eOp gAdd (eVar 1) (eC (.int 1))) aNil)))) (sSeq (sAsg 13 (eCall M_law_words (aCons (eIx (eLst (aCons (eOp gFdiv (eVar 12) (eC (.int 7))) (aCons (eVar 12) (aCons (eOp gFdiv (eVar 11) (eC (.int 12))) (aCons (eOp gFdiv (eVar 11) (eC (.int 16))) aNil))))) (eOp gMod (eOp gFdiv (eVar 11) (eC (.int 4))) (eC (.int 4)))) (aCons (eVar 6) aNil)))) (sRet (eLst (aCons (eVar 13) (aCons (eVar 7) (aCons (eOp gAdd (eC (.int 1)) (eOp gMod (eOp gFdiv (eVar 11) (eC (.int 2))) (eIx (eLst (aCons (eC (.int 6)) (aCons (eOp gPow (eC (.int 10)) (eC (.int 9))) aNil))) (eOp gMod (eVar 11) (eC (.int 2)))))) aNil))))))))))))))
def M_law_shape : List D → R D := runFr 14 (G_law_shape)
def T_law_shape (v_script : (List Int)) (v_at : Int) (v_k : Int) (v_names : (List Str)) (v_room : Int) : R ((List Str) × (List Str) × Int) := ((T_law_cell v_script ((v_at + (2 : Int)) + ((2 : Int) * v_k))).bind fun (v_shape_here : Int) => (((((R.ok (2 : Int)).bind fun x => (atR [(0 : Int), (0 : Int), (1 : Int), (0 : Int), (2 : Int), (0 : Int)] (v_shape_here % (6 : Int))).bind fun y => R.ok (x + y)).bind fun x => ((R.ok (if v_room > (2 : Int) then v_room else (2 : Int))).bind fun x => (R.ok ()).bind fun xs => R.ok (x, xs)).bind fun xs => R.ok (x, xs)).bind fun t => R.ok (if t.2.1 < t.1 then t.2.1 else t.1)).bind fun (v_size : Int) => (((((R.ok v_k).bind rngR1).bind fun l => (cmpR (fun (a1 : Int) => (((((R.ok (v_shape_here / (6 : Int))).bind fun x => (shlR (1 : Int) a1).bind fun y => divR x y).bind fun x => R.ok (x % (2 : Int))).bind fun x => (R.ok (1 : Int)).bind fun y => R.ok (decide (x = y))).bind fun a => if a then (R.ok (decide ((0 : Int) < ((v_shape_here / (7 : Int)) % (4 : Int))))) else R.ok false)) (fun (a1 : Int) => (atR v_names a1)) l).bind fitN).bind fun l => (R.ok none).bind fun lo => (R.ok (some (3 : Int))).bind fun hi => R.ok (cutL l lo hi)).bind fun (v_elders : (List Str)) => ((modR (v_shape_here / (11 : Int)) (if (v_elders.length : Int) > (1 : Int) then (v_elders.length : Int) else (1 : Int))).bind fun (v_turn : Int) => (((R.ok (cutL v_elders (some v_turn) none)).bind fun x => (R.ok (cutL v_elders none (some v_turn))).bind fun y => catR x y).bind fun (v_elders : (List Str)) => (((R.ok (decide (((v_shape_here / (5 : Int)) % (2 : Int)) = (1 : Int)))).bind fun b => if b then ((((R.ok v_elders).bind fun l => R.ok l.reverse).bind fun l => (cmpR (fun (a2 : Str) => (R.ok true)) (fun (a2 : Str) => (R.ok a2)) l).bind fitN).bind fun (v_elders : (List Str)) => R.ok v_elders) else ((R.ok ()).bind fun (_ : Unit) => R.ok v_elders)).bind fun (v_elders : (List Str)) => ((T_law_cell v_script ((v_at + (3 : Int)) + ((2 : Int) * v_k))).bind fun (v_other : Int) => ((T_law_cell v_script (v_at + (1 : Int))).bind fun (v_base : Int) => ((((atR [(v_base / (7 : Int)), v_base, (v_other / (12 : Int)), (v_other / (16 : Int))] ((v_other / (4 : Int)) % (4 : Int))).bind fun x => ((R.ok v_size).bind fun x => (R.ok ()).bind fun xs => R.ok (x, xs)).bind fun xs => R.ok (x, xs)).bind fun t => T_law_words t.1 t.2.1).bind fun (v_values : (List Str)) => (((R.ok v_values).bind fun x => ((R.ok v_elders).bind fun x => (((R.ok (1 : Int)).bind fun x => ((R.ok (v_other / (2 : Int))).bind fun x => (atR [(6 : Int), (1000000000 : Int)] (v_other % (2 : Int))).bind fun y => modR x y).bind fun y => R.ok (x + y)).bind fun x => (R.ok ()).bind fun xs => R.ok (x, xs)).bind fun xs => R.ok (x, xs)).bind fun xs => R.ok (x, xs)).bind fun t => R.ok (t.1, t.2.1, t.2.2.1)))))))))))
theorem sim_law_shape (v_script : (List Int)) (v_at : Int) (v_k : Int) (v_names : (List Str)) (v_room : Int) : Ref (M_law_shape [(eL D.int) v_script, D.int v_at, D.int v_k, (eL D.str) v_names, D.int v_room]) ((T_law_shape v_script v_at v_k v_names v_room).map (h3 (eL D.str) (eL D.str) D.int)) := by
  unfold M_law_shape
  exact run_xr (n := 14) (p := [some ((eL D.int) v_script), some (D.int v_at), some (D.int v_k), some ((eL D.str) v_names), some (D.int v_room), none, none, none, none, none, none, none, none, none]) (by unfold G_law_shape T_law_shape; exact (sx_seq (sn_asg (i := 5) (ea := D.int) (P := fun (v_shape_here : Int) => [some ((eL D.int) v_script), some (D.int v_at), some (D.int v_k), some ((eL D.str) v_names), some (D.int v_room), some (D.int v_shape_here), none, none, none, none, none, none, none, none]) (by exact (se_call (sa_cons (d := ((eL D.int) v_script)) (sp_var (i := 0)) (sa_cons (d := (D.int ((v_at + (2 : Int)) + ((2 : Int) * v_k)))) (sp_op (k := gAdd) (d := D.int ((v_at + (2 : Int)) + ((2 : Int) * v_k))) rfl (sp_op (k := gAdd) (d := D.int (v_at + (2 : Int))) rfl (sp_var (i := 1)) sp_c) (sp_op (d := .int ((2 : Int) * v_k)) (g_mulL 2 v_k) sp_c (sp_var (i := 2)))) sa_nil)) (sim_law_cell v_script ((v_at + (2 : Int)) + ((2 : Int) * v_k)))))) (fun (v_shape_here : Int) => (sx_seq (sn_asg (i := 6) (ea := D.int) (P := fun (v_size : Int) => [some ((eL D.int) v_script), some (D.int v_at), some (D.int v_k), some ((eL D.str) v_names), some (D.int v_room), some (D.int v_shape_here), some (D.int v_size), none, none, none, none, none, none, none]) (by exact (se_bE (k := gMin) (ea := D.int) (T := fun (t : (Int × Int × Unit)) => R.ok (if t.2.1 < t.1 then t.2.1 else t.1)) (sa_consE (se_op (k := gAdd) (ea := D.int) (eb := D.int) (ec := D.int) (h := fun (x : Int) (y : Int) => R.ok (x + y)) (fun x y => Ref.of rfl) (SP.se (ea := D.int) (x := (2 : Int)) sp_c) (se_ixP (ec := D.int) (k_atL [(0 : Int), (0 : Int), (1 : Int), (0 : Int), (2 : Int), (0 : Int)] (v_shape_here % (6 : Int))) (sp_lst (sa_cons (d := (D.int (0 : Int))) sp_c (sa_cons (d := (D.int (0 : Int))) sp_c (sa_cons (d := (D.int (1 : Int))) sp_c (sa_cons (d := (D.int (0 : Int))) sp_c (sa_cons (d := (D.int (2 : Int))) sp_c (sa_cons (d := (D.int (0 : Int))) sp_c sa_nil))))))) (sp_op (d := .int (v_shape_here % (6 : Int))) (g_modC v_shape_here 6) (sp_var (i := 5)) sp_c))) (sa_consE (SP.se (ea := D.int) (x := (if v_room > (2 : Int) then v_room else (2 : Int))) (sp_b (k := gMax) (d := D.int (if v_room > (2 : Int) then v_room else (2 : Int))) (sa_cons (d := (D.int (2 : Int))) sp_c (sa_cons (d := (D.int v_room)) (sp_var (i := 4)) sa_nil)) rfl)) sa_nilE)) (fun t => Ref.of rfl)))) (fun (v_size : Int) => (sx_seq (sn_asg (i := 7) (ea := (eL D.str)) (P := fun (v_elders : (List Str)) => [some ((eL D.int) v_script), some (D.int v_at), some (D.int v_k), some ((eL D.str) v_names), some (D.int v_room), some (D.int v_shape_here), some (D.int v_size), some ((eL D.str) v_elders), none, none, none, none, none, none]) (by exact (se_slL (se_comp (Pt := fun (a1 : Int) => [some ((eL D.int) v_script), some (D.int v_at), some (D.int v_k), some ((eL D.str) v_names), some (D.int v_room), some (D.int v_shape_here), some (D.int v_size), none, some (D.int a1), none, none, none, none, none]) (si_rng1 (fs := aNil) (SP.se (ea := D.int) (x := v_k) (sp_var (i := 2)))) (TGs.le (p' := [some ((eL D.int) v_script), some (D.int v_at), some (D.int v_k), some ((eL D.str) v_names), some (D.int v_room), some (D.int v_shape_here), some (D.int v_size), none, none, none, none, none, none, none]) ((show PLe [some ((eL D.int) v_script), some (D.int v_at), some (D.int v_k), some ((eL D.str) v_names), some (D.int v_room), some (D.int v_shape_here), some (D.int v_size), none, none, none, none, none, none, none] _ by exact And.intro rfl (And.intro rfl (And.intro rfl (And.intro rfl (And.intro rfl (And.intro rfl (And.intro rfl (trivial))))))))) tg_name) (fun a1 => (by exact (sc_andE (sc_valE (se_op (k := gEq) (ea := D.int) (eb := D.int) (ec := D.bl) (h := fun (x : Int) (y : Int) => R.ok (decide (x = y))) (fun x y => Ref.of rfl) (se_opC (ec := D.int) (h := fun x => R.ok (x % (2 : Int))) (se_op (k := gFdiv) (ea := D.int) (eb := D.int) (ec := D.int) (h := fun x y => divR x y) (fun x y => k_fdiv x y) (SP.se (ea := D.int) (x := (v_shape_here / (6 : Int))) (sp_op (d := .int (v_shape_here / (6 : Int))) (g_divC v_shape_here 6) (sp_var (i := 5)) sp_c)) (se_opP (k := gShl) (ec := D.int) (k_shl (1 : Int) a1) sp_c (sp_var (i := 8)))) sp_c (fun x => Ref.of (by rw [g_modC x 2]; rfl))) (SP.se (ea := D.int) (x := (1 : Int)) sp_c))) (SCp.sc (sc_val (sp_op (k := gGt) (d := D.bl (decide ((0 : Int) < ((v_shape_here / (7 : Int)) % (4 : Int))))) rfl (sp_op (d := .int ((v_shape_here / (7 : Int)) % (4 : Int))) (g_modC (v_shape_here / (7 : Int)) 4) (sp_op (d := .int (v_shape_here / (7 : Int))) (g_divC v_shape_here 7) (sp_var (i := 5)) sp_c) sp_c) sp_c)))))) (fun a1 => (by exact (se_ixP (ec := D.str) (k_atL v_names a1) (sp_var (i := 3)) (sp_var (i := 8)))))) (SOp.so sop_no) (SOp.so (sop_at sp_c)) (fun _ => rfl)))) (fun (v_elders : (List Str)) => (sx_seq (sn_asg (i := 9) (ea := D.int) (P := fun (v_turn : Int) => [some ((eL D.int) v_script), some (D.int v_at), some (D.int v_k), some ((eL D.str) v_names), some (D.int v_room), some (D.int v_shape_here), some (D.int v_size), some ((eL D.str) v_elders), none, some (D.int v_turn), none, none, none, none]) (by exact (se_opP (k := gMod) (ec := D.int) (k_mod (v_shape_here / (11 : Int)) (if (v_elders.length : Int) > (1 : Int) then (v_elders.length : Int) else (1 : Int))) (sp_op (d := .int (v_shape_here / (11 : Int))) (g_divC v_shape_here 11) (sp_var (i := 5)) sp_c) (sp_b (k := gMax) (d := D.int (if (v_elders.length : Int) > (1 : Int) then (v_elders.length : Int) else (1 : Int))) (sa_cons (d := (D.int (1 : Int))) sp_c (sa_cons (d := (D.int (v_elders.length : Int))) (sp_b (k := gLen) (d := D.int (v_elders.length : Int)) (sa_cons (d := ((eL D.str) v_elders)) (sp_var (i := 7)) sa_nil) (g_lenL _)) sa_nil)) rfl)))) (fun (v_turn : Int) => (sx_seq (sn_asg (i := 7) (ea := (eL D.str)) (P := fun (v_elders : (List Str)) => [some ((eL D.int) v_script), some (D.int v_at), some (D.int v_k), some ((eL D.str) v_names), some (D.int v_room), some (D.int v_shape_here), some (D.int v_size), some ((eL D.str) v_elders), none, some (D.int v_turn), none, none, none, none]) (by exact (se_catL (SP.se (ea := (eL D.str)) (x := (cutL v_elders (some v_turn) none)) (sp_slL (l := v_elders) (sp_var (i := 7)) (sop_at (sp_var (i := 9))) sop_no rfl)) (SP.se (ea := (eL D.str)) (x := (cutL v_elders none (some v_turn))) (sp_slL (l := v_elders) (sp_var (i := 7)) sop_no (sop_at (sp_var (i := 9))) rfl))))) (fun (v_elders : (List Str)) => (sx_seq (sn_if (by exact (SCp.sc (sc_val (sp_op (k := gEq) (d := D.bl (decide (((v_shape_here / (5 : Int)) % (2 : Int)) = (1 : Int)))) rfl (sp_op (d := .int ((v_shape_here / (5 : Int)) % (2 : Int))) (g_modC (v_shape_here / (5 : Int)) 2) (sp_op (d := .int (v_shape_here / (5 : Int))) (g_divC v_shape_here 5) (sp_var (i := 5)) sp_c) sp_c) sp_c)))) (sn_yield (P := fun (v_elders : (List Str)) => [some ((eL D.int) v_script), some (D.int v_at), some (D.int v_k), some ((eL D.str) v_names), some (D.int v_room), some (D.int v_shape_here), some (D.int v_size), some ((eL D.str) v_elders), none, some (D.int v_turn), none, none, none, none]) (sn_asg (i := 7) (ea := (eL D.str)) (P := fun (v_elders : (List Str)) => [some ((eL D.int) v_script), some (D.int v_at), some (D.int v_k), some ((eL D.str) v_names), some (D.int v_room), some (D.int v_shape_here), some (D.int v_size), some ((eL D.str) v_elders), none, some (D.int v_turn), none, none, none, none]) (by exact (se_comp (Pt := fun (a2 : Str) => [some ((eL D.int) v_script), some (D.int v_at), some (D.int v_k), some ((eL D.str) v_names), some (D.int v_room), some (D.int v_shape_here), some (D.int v_size), some ((eL D.str) v_elders), none, some (D.int v_turn), some (D.str a2), none, none, none]) (si_revL (SP.se (ea := (eL D.str)) (x := v_elders) (sp_var (i := 7)))) (TGs.le (p' := [some ((eL D.int) v_script), some (D.int v_at), some (D.int v_k), some ((eL D.str) v_names), some (D.int v_room), some (D.int v_shape_here), some (D.int v_size), some ((eL D.str) v_elders), none, some (D.int v_turn), none, none, none, none]) ((show PLe [some ((eL D.int) v_script), some (D.int v_at), some (D.int v_k), some ((eL D.str) v_names), some (D.int v_room), some (D.int v_shape_here), some (D.int v_size), some ((eL D.str) v_elders), none, some (D.int v_turn), none, none, none, none] _ by exact And.intro rfl (And.intro rfl (And.intro rfl (And.intro rfl (And.intro rfl (And.intro rfl (And.intro rfl (And.intro rfl (And.intro rfl (trivial))))))))))) tg_name) (fun a2 => (by exact (SCp.sc sc_true))) (fun a2 => (by exact (SP.se (ea := D.str) (x := a2) (sp_var (i := 10)))))))) (fun (v_elders : (List Str)) => v_elders) (fun (v_elders : (List Str)) => by exact And.intro rfl (And.intro rfl (And.intro rfl (And.intro rfl (And.intro rfl (And.intro rfl (And.intro rfl (And.intro rfl (And.intro rfl (trivial))))))))))) (sn_yield (P := fun (v_elders : (List Str)) => [some ((eL D.int) v_script), some (D.int v_at), some (D.int v_k), some ((eL D.str) v_names), some (D.int v_room), some (D.int v_shape_here), some (D.int v_size), some ((eL D.str) v_elders), none, some (D.int v_turn), none, none, none, none]) sn_nil (fun (_ : Unit) => v_elders) (fun (_ : Unit) => by exact And.intro rfl (And.intro rfl (And.intro rfl (And.intro rfl (And.intro rfl (And.intro rfl (And.intro rfl (And.intro rfl (And.intro rfl (trivial)))))))))))) (fun (v_elders : (List Str)) => (sx_seq (sn_asg (i := 11) (ea := D.int) (P := fun (v_other : Int) => [some ((eL D.int) v_script), some (D.int v_at), some (D.int v_k), some ((eL D.str) v_names), some (D.int v_room), some (D.int v_shape_here), some (D.int v_size), some ((eL D.str) v_elders), none, some (D.int v_turn), none, some (D.int v_other), none, none]) (by exact (se_call (sa_cons (d := ((eL D.int) v_script)) (sp_var (i := 0)) (sa_cons (d := (D.int ((v_at + (3 : Int)) + ((2 : Int) * v_k)))) (sp_op (k := gAdd) (d := D.int ((v_at + (3 : Int)) + ((2 : Int) * v_k))) rfl (sp_op (k := gAdd) (d := D.int (v_at + (3 : Int))) rfl (sp_var (i := 1)) sp_c) (sp_op (d := .int ((2 : Int) * v_k)) (g_mulL 2 v_k) sp_c (sp_var (i := 2)))) sa_nil)) (sim_law_cell v_script ((v_at + (3 : Int)) + ((2 : Int) * v_k)))))) (fun (v_other : Int) => (sx_seq (sn_asg (i := 12) (ea := D.int) (P := fun (v_base : Int) => [some ((eL D.int) v_script), some (D.int v_at), some (D.int v_k), some ((eL D.str) v_names), some (D.int v_room), some (D.int v_shape_here), some (D.int v_size), some ((eL D.str) v_elders), none, some (D.int v_turn), none, some (D.int v_other), some (D.int v_base), none]) (by exact (se_call (sa_cons (d := ((eL D.int) v_script)) (sp_var (i := 0)) (sa_cons (d := (D.int (v_at + (1 : Int)))) (sp_op (k := gAdd) (d := D.int (v_at + (1 : Int))) rfl (sp_var (i := 1)) sp_c) sa_nil)) (sim_law_cell v_script (v_at + (1 : Int)))))) (fun (v_base : Int) => (sx_seq (sn_asg (i := 13) (ea := (eL D.str)) (P := fun (v_values : (List Str)) => [some ((eL D.int) v_script), some (D.int v_at), some (D.int v_k), some ((eL D.str) v_names), some (D.int v_room), some (D.int v_shape_here), some (D.int v_size), some ((eL D.str) v_elders), none, some (D.int v_turn), none, some (D.int v_other), some (D.int v_base), some ((eL D.str) v_values)]) (by exact (se_callE (T := fun (t : (Int × Int × Unit)) => T_law_words t.1 t.2.1) (sa_consE (se_ixP (ec := D.int) (k_atL [(v_base / (7 : Int)), v_base, (v_other / (12 : Int)), (v_other / (16 : Int))] ((v_other / (4 : Int)) % (4 : Int))) (sp_lst (sa_cons (d := (D.int (v_base / (7 : Int)))) (sp_op (d := .int (v_base / (7 : Int))) (g_divC v_base 7) (sp_var (i := 12)) sp_c) (sa_cons (d := (D.int v_base)) (sp_var (i := 12)) (sa_cons (d := (D.int (v_other / (12 : Int)))) (sp_op (d := .int (v_other / (12 : Int))) (g_divC v_other 12) (sp_var (i := 11)) sp_c) (sa_cons (d := (D.int (v_other / (16 : Int)))) (sp_op (d := .int (v_other / (16 : Int))) (g_divC v_other 16) (sp_var (i := 11)) sp_c) sa_nil))))) (sp_op (d := .int ((v_other / (4 : Int)) % (4 : Int))) (g_modC (v_other / (4 : Int)) 4) (sp_op (d := .int (v_other / (4 : Int))) (g_divC v_other 4) (sp_var (i := 11)) sp_c) sp_c)) (sa_consE (SP.se (ea := D.int) (x := v_size) (sp_var (i := 6))) sa_nilE)) (fun t => sim_law_words t.1 t.2.1)))) (fun (v_values : (List Str)) => (sx_ret (by exact (se_lst (ea := (h3 (eL D.str) (eL D.str) D.int)) (T := fun (t : ((List Str) × (List Str) × Int × Unit)) => (t.1, t.2.1, t.2.2.1)) (sa_consE (SP.se (ea := (eL D.str)) (x := v_values) (sp_var (i := 13))) (sa_consE (SP.se (ea := (eL D.str)) (x := v_elders) (sp_var (i := 7))) (sa_consE (se_op (k := gAdd) (ea := D.int) (eb := D.int) (ec := D.int) (h := fun (x : Int) (y : Int) => R.ok (x + y)) (fun x y => Ref.of rfl) (SP.se (ea := D.int) (x := (1 : Int)) sp_c) (se_op (k := gMod) (ea := D.int) (eb := D.int) (ec := D.int) (h := fun x y => modR x y) (fun x y => k_mod x y) (SP.se (ea := D.int) (x := (v_other / (2 : Int))) (sp_op (d := .int (v_other / (2 : Int))) (g_divC v_other 2) (sp_var (i := 11)) sp_c)) (se_ixP (ec := D.int) (k_atL [(6 : Int), (1000000000 : Int)] (v_other % (2 : Int))) (sp_lst (sa_cons (d := (D.int (6 : Int))) sp_c (sa_cons (d := (D.int (1000000000 : Int))) (sp_op (d := .int 1000000000) (g_powC 10 9 1000000000) sp_c sp_c) sa_nil))) (sp_op (d := .int (v_other % (2 : Int))) (g_modC v_other 2) (sp_var (i := 11)) sp_c)))) sa_nilE))) (fun _ => rfl))))))))))))))))))))))) (And.intro rfl (And.intro rfl (And.intro rfl (And.intro rfl (And.intro rfl (trivial))))))
def G_law_rows : List D → R Fl := (sSeq (sAsg 4 (eOp gAdd (eC (.int 1)) (eOp gMod (eCall M_law_cell (aCons (eVar 0) (aCons (eVar 1) aNil))) (eVar 2)))) (sSeq (sAsg 5 (eCall M_law_words (aCons (eCall M_law_cell (aCons (eVar 0) (aCons (eOp gAdd (eVar 1) (eC (.int 1))) aNil))) (aCons (eVar 4) aNil)))) (sSeq (sAsg 6 (eLst aNil)) (sSeq (sAsg 7 (eC (.dic []))) (sSeq (sAsg 8 (eC (.int 1))) (sSeq (sAsg 9 (eOp gAdd (eOp gAdd (eVar 1) (eC (.int 2))) (eOp gMul (eC (.int 2)) (eVar 4)))) (sSeq (sFor (iRng rng1 (aCons (eVar 4) aNil)) (tgName 10) (sSeq (sUnp (tgLst [14, 15, 16]) (eCall M_law_shape (aCons (eVar 0) (aCons (eVar 1) (aCons (eVar 10) (aCons (eVar 5) (aCons (eOp gFdiv (eVar 3) (eOp gMul (eVar 8) (eOp gShl (eC (.int 1)) (eOp gSub (eOp gSub (eVar 4) (eVar 10)) (eC (.int 1)))))) aNil))))))) (sSeq (sDPutV 7 (eIx (eVar 5) (eVar 10)) (eB gLen (aCons (eVar 14) aNil))) (sSeq (sAsg 8 (eOp gMul (eVar 8) (eB gLen (aCons (eVar 14) aNil)))) (sSeq (sAsg 11 (eC (.int 1))) (sSeq (sFor (iLst (eVar 15)) (tgName 12) (sAsg 11 (eOp gMul (eVar 11) (eDGet (eVar 7) (eVar 12))))) (sSeq (sAsg 13 (eComp (iRng rng1 (aCons (eVar 11) aNil)) (tgName 17) tTrue (eCall M_law_cuts (aCons (eCall M_law_cell (aCons (eVar 0) (aCons (eOp gAdd (eVar 9) (eVar 17)) aNil))) (aCons (eB gLen (aCons (eVar 14) aNil)) (aCons (eVar 16) aNil)))))) (sSeq (sAsg 9 (eOp gAdd (eVar 9) (eVar 11))) (sOwn 6 gApp (aCons (eTup (aCons (eIx (eVar 5) (eVar 10)) (aCons (eVar 14) (aCons (eVar 15) (aCons (eVar 13) aNil))))) aNil)))))))))) (sRet (eVar 6)))))))))
def M_law_rows : List D → R D := runFr 18 (G_law_rows)
def T_law_rows_b1 (v_sizes : (List (Str × Int))) (s4 : Int) (a5 : Str) : R Int := (((R.ok s4).bind fun x => (dgetR v_sizes a5).bind fun y => mulR x y).bind fun (v_turns : Int) => R.ok v_turns)
def T_law_rows_b2 (v_script : (List Int)) (v_at : Int) (v_top : Int) (v_count : Int) (v_names : (List Str)) (s1 : ((List (Str × (List Str) × (List Str) × (List (List Int)))) × (List (Str × Int)) × Int × Int)) (a2 : Int) : R ((List (Str × (List Str) × (List Str) × (List (List Int)))) × (List (Str × Int)) × Int × Int) := ((((R.ok v_script).bind fun x => ((R.ok v_at).bind fun x => ((R.ok a2).bind fun x => ((R.ok v_names).bind fun x => (((R.ok v_top).bind fun x => ((R.ok s1.2.2.1).bind fun x => (shlR (1 : Int) ((v_count - a2) - (1 : Int))).bind fun y => mulR x y).bind fun y => divR x y).bind fun x => (R.ok ()).bind fun xs => R.ok (x, xs)).bind fun xs => R.ok (x, xs)).bind fun xs => R.ok (x, xs)).bind fun xs => R.ok (x, xs)).bind fun xs => R.ok (x, xs)).bind fun t => T_law_shape t.1 t.2.1 t.2.2.1 t.2.2.2.1 t.2.2.2.2.1).bind fun (y3 : ((List Str) × (List Str) × Int)) => (((R.ok (y3.1.length : Int)).bind fun x => (atR v_names a2).bind fun k => putN s1.2.1 k x).bind fun (v_sizes : (List (Str × Int))) => ((mulR s1.2.2.1 (y3.1.length : Int)).bind fun (v_total : Int) => ((R.ok (1 : Int)).bind fun (v_turns : Int) => (((R.ok y3.2.1).bind fun l => foldR (T_law_rows_b1 v_sizes) l v_turns).bind fun (v_turns : Int) => ((((R.ok v_turns).bind rngR1).bind fun l => (cmpR (fun (a6 : Int) => (R.ok true)) (fun (a6 : Int) => (((T_law_cell v_script (s1.2.2.2 + a6)).bind fun x => ((R.ok (y3.1.length : Int)).bind fun x => ((R.ok y3.2.2).bind fun x => (R.ok ()).bind fun xs => R.ok (x, xs)).bind fun xs => R.ok (x, xs)).bind fun xs => R.ok (x, xs)).bind fun t => T_law_cuts t.1 t.2.1 t.2.2.1)) l).bind fitN).bind fun (v_table : (List (List Int))) => ((R.ok (s1.2.2.2 + v_turns)).bind fun (v_spot : Int) => (((((atR v_names a2).bind fun x => ((R.ok y3.1).bind fun x => ((R.ok y3.2.1).bind fun x => ((R.ok v_table).bind fun x => (R.ok ()).bind fun xs => R.ok (x, xs)).bind fun xs => R.ok (x, xs)).bind fun xs => R.ok (x, xs)).bind fun xs => R.ok (x, xs)).bind fun t => R.ok (t.1, t.2.1, t.2.2.1, t.2.2.2.1)).bind fun x => appR s1.1 x).bind fun (v_rows_here : (List (Str × (List Str) × (List Str) × (List (List Int))))) => R.ok (v_rows_here, v_sizes, v_total, v_spot)))))))))
def T_law_rows (v_script : (List Int)) (v_at : Int) (v_most : Int) (v_top : Int) : R (List (Str × (List Str) × (List Str) × (List (List Int)))) := (((R.ok (1 : Int)).bind fun x => ((T_law_cell v_script v_at).bind fun x => (R.ok v_most).bind fun y => modR x y).bind fun y => R.ok (x + y)).bind fun (v_count : Int) => ((((T_law_cell v_script (v_at + (1 : Int))).bind fun x => ((R.ok v_count).bind fun x => (R.ok ()).bind fun xs => R.ok (x, xs)).bind fun xs => R.ok (x, xs)).bind fun t => T_law_words t.1 t.2.1).bind fun (v_names : (List Str)) => ((R.ok ([] : (List (Str × (List Str) × (List Str) × (List (List Int)))))).bind fun (v_rows_here : (List (Str × (List Str) × (List Str) × (List (List Int))))) => ((R.ok ([] : (List (Str × Int)))).bind fun (v_sizes : (List (Str × Int))) => ((R.ok (1 : Int)).bind fun (v_total : Int) => ((R.ok ((v_at + (2 : Int)) + ((2 : Int) * v_count))).bind fun (v_spot : Int) => ((((R.ok v_count).bind rngR1).bind fun l => foldR (T_law_rows_b2 v_script v_at v_top v_count v_names) l (v_rows_here, v_sizes, v_total, v_spot)).bind fun (y7 : ((List (Str × (List Str) × (List Str) × (List (List Int)))) × (List (Str × Int)) × Int × Int)) => (R.ok y7.1))))))))
theorem sim_law_rows (v_script : (List Int)) (v_at : Int) (v_most : Int) (v_top : Int) : Ref (M_law_rows [(eL D.int) v_script, D.int v_at, D.int v_most, D.int v_top]) ((T_law_rows v_script v_at v_most v_top).map (eL (e4 D.str (eL D.str) (eL D.str) (eL (eL D.int))))) := by
  unfold M_law_rows
  exact run_xr (n := 18) (p := [some ((eL D.int) v_script), some (D.int v_at), some (D.int v_most), some (D.int v_top), none, none, none, none, none, none, none, none, none, none, none, none, none, none]) (by unfold G_law_rows T_law_rows; exact (sx_seq (sn_asg (i := 4) (ea := D.int) (P := fun (v_count : Int) => [some ((eL D.int) v_script), some (D.int v_at), some (D.int v_most), some (D.int v_top), some (D.int v_count), none, none, none, none, none, none, none, none, none, none, none, none, none]) (by exact (se_op (k := gAdd) (ea := D.int) (eb := D.int) (ec := D.int) (h := fun (x : Int) (y : Int) => R.ok (x + y)) (fun x y => Ref.of rfl) (SP.se (ea := D.int) (x := (1 : Int)) sp_c) (se_op (k := gMod) (ea := D.int) (eb := D.int) (ec := D.int) (h := fun x y => modR x y) (fun x y => k_mod x y) (se_call (sa_cons (d := ((eL D.int) v_script)) (sp_var (i := 0)) (sa_cons (d := (D.int v_at)) (sp_var (i := 1)) sa_nil)) (sim_law_cell v_script v_at)) (SP.se (ea := D.int) (x := v_most) (sp_var (i := 2))))))) (fun (v_count : Int) => (sx_seq (sn_asg (i := 5) (ea := (eL D.str)) (P := fun (v_names : (List Str)) => [some ((eL D.int) v_script), some (D.int v_at), some (D.int v_most), some (D.int v_top), some (D.int v_count), some ((eL D.str) v_names), none, none, none, none, none, none, none, none, none, none, none, none]) (by exact (se_callE (T := fun (t : (Int × Int × Unit)) => T_law_words t.1 t.2.1) (sa_consE (se_call (sa_cons (d := ((eL D.int) v_script)) (sp_var (i := 0)) (sa_cons (d := (D.int (v_at + (1 : Int)))) (sp_op (k := gAdd) (d := D.int (v_at + (1 : Int))) rfl (sp_var (i := 1)) sp_c) sa_nil)) (sim_law_cell v_script (v_at + (1 : Int)))) (sa_consE (SP.se (ea := D.int) (x := v_count) (sp_var (i := 4))) sa_nilE)) (fun t => sim_law_words t.1 t.2.1)))) (fun (v_names : (List Str)) => (sx_seq (sn_asg (i := 6) (ea := (eL (e4 D.str (eL D.str) (eL D.str) (eL (eL D.int))))) (P := fun (v_rows_here : (List (Str × (List Str) × (List Str) × (List (List Int))))) => [some ((eL D.int) v_script), some (D.int v_at), some (D.int v_most), some (D.int v_top), some (D.int v_count), some ((eL D.str) v_names), some ((eL (e4 D.str (eL D.str) (eL D.str) (eL (eL D.int)))) v_rows_here), none, none, none, none, none, none, none, none, none, none, none]) (by exact (SP.se (ea := (eL (e4 D.str (eL D.str) (eL D.str) (eL (eL D.int))))) (x := ([] : (List (Str × (List Str) × (List Str) × (List (List Int)))))) (sp_lst sa_nil)))) (fun (v_rows_here : (List (Str × (List Str) × (List Str) × (List (List Int))))) => (sx_seq (sn_asg (i := 7) (ea := (eDS D.int)) (P := fun (v_sizes : (List (Str × Int))) => [some ((eL D.int) v_script), some (D.int v_at), some (D.int v_most), some (D.int v_top), some (D.int v_count), some ((eL D.str) v_names), some ((eL (e4 D.str (eL D.str) (eL D.str) (eL (eL D.int)))) v_rows_here), some ((eDS D.int) v_sizes), none, none, none, none, none, none, none, none, none, none]) (by exact (SP.se (ea := (eDS D.int)) (x := ([] : (List (Str × Int)))) sp_c))) (fun (v_sizes : (List (Str × Int))) => (sx_seq (sn_asg (i := 8) (ea := D.int) (P := fun (v_total : Int) => [some ((eL D.int) v_script), some (D.int v_at), some (D.int v_most), some (D.int v_top), some (D.int v_count), some ((eL D.str) v_names), some ((eL (e4 D.str (eL D.str) (eL D.str) (eL (eL D.int)))) v_rows_here), some ((eDS D.int) v_sizes), some (D.int v_total), none, none, none, none, none, none, none, none, none]) (by exact (SP.se (ea := D.int) (x := (1 : Int)) sp_c))) (fun (v_total : Int) => (sx_seq (sn_asg (i := 9) (ea := D.int) (P := fun (v_spot : Int) => [some ((eL D.int) v_script), some (D.int v_at), some (D.int v_most), some (D.int v_top), some (D.int v_count), some ((eL D.str) v_names), some ((eL (e4 D.str (eL D.str) (eL D.str) (eL (eL D.int)))) v_rows_here), some ((eDS D.int) v_sizes), some (D.int v_total), some (D.int v_spot), none, none, none, none, none, none, none, none]) (by exact (SP.se (ea := D.int) (x := ((v_at + (2 : Int)) + ((2 : Int) * v_count))) (sp_op (k := gAdd) (d := D.int ((v_at + (2 : Int)) + ((2 : Int) * v_count))) rfl (sp_op (k := gAdd) (d := D.int (v_at + (2 : Int))) rfl (sp_var (i := 1)) sp_c) (sp_op (d := .int ((2 : Int) * v_count)) (g_mulL 2 v_count) sp_c (sp_var (i := 4))))))) (fun (v_spot : Int) => (sx_seq (sn_for (P := fun (s1 : ((List (Str × (List Str) × (List Str) × (List (List Int)))) × (List (Str × Int)) × Int × Int)) => [some ((eL D.int) v_script), some (D.int v_at), some (D.int v_most), some (D.int v_top), some (D.int v_count), some ((eL D.str) v_names), some ((eL (e4 D.str (eL D.str) (eL D.str) (eL (eL D.int)))) s1.1), some ((eDS D.int) s1.2.1), some (D.int s1.2.2.1), some (D.int s1.2.2.2), none, none, none, none, none, none, none, none]) (Pt := fun (s1 : ((List (Str × (List Str) × (List Str) × (List (List Int)))) × (List (Str × Int)) × Int × Int)) (a2 : Int) => [some ((eL D.int) v_script), some (D.int v_at), some (D.int v_most), some (D.int v_top), some (D.int v_count), some ((eL D.str) v_names), some ((eL (e4 D.str (eL D.str) (eL D.str) (eL (eL D.int)))) s1.1), some ((eDS D.int) s1.2.1), some (D.int s1.2.2.1), some (D.int s1.2.2.2), some (D.int a2), none, none, none, none, none, none, none]) (st := (T_law_rows_b2 v_script v_at v_top v_count v_names)) (v_rows_here, v_sizes, v_total, v_spot) (si_rng1 (fs := aNil) (SP.se (ea := D.int) (x := v_count) (sp_var (i := 4)))) (by exact And.intro rfl (And.intro rfl (And.intro rfl (And.intro rfl (And.intro rfl (And.intro rfl (And.intro rfl (And.intro rfl (And.intro rfl (And.intro rfl (trivial))))))))))) (fun _ => tg_name) (fun s1 a2 => by unfold T_law_rows_b2; exact (sn_seq (sn_unp (P := fun (y3 : ((List Str) × (List Str) × Int)) => [some ((eL D.int) v_script), some (D.int v_at), some (D.int v_most), some (D.int v_top), some (D.int v_count), some ((eL D.str) v_names), some ((eL (e4 D.str (eL D.str) (eL D.str) (eL (eL D.int)))) s1.1), some ((eDS D.int) s1.2.1), some (D.int s1.2.2.1), some (D.int s1.2.2.2), some (D.int a2), none, none, none, some ((eL D.str) y3.1), some ((eL D.str) y3.2.1), some (D.int y3.2.2), none]) (by exact (se_callE (T := fun (t : ((List Int) × Int × Int × (List Str) × Int × Unit)) => T_law_shape t.1 t.2.1 t.2.2.1 t.2.2.2.1 t.2.2.2.2.1) (sa_consE (SP.se (ea := (eL D.int)) (x := v_script) (sp_var (i := 0))) (sa_consE (SP.se (ea := D.int) (x := v_at) (sp_var (i := 1))) (sa_consE (SP.se (ea := D.int) (x := a2) (sp_var (i := 10))) (sa_consE (SP.se (ea := (eL D.str)) (x := v_names) (sp_var (i := 5))) (sa_consE (se_op (k := gFdiv) (ea := D.int) (eb := D.int) (ec := D.int) (h := fun x y => divR x y) (fun x y => k_fdiv x y) (SP.se (ea := D.int) (x := v_top) (sp_var (i := 3))) (se_op (k := gMul) (ea := D.int) (eb := D.int) (ec := D.int) (h := fun x y => mulR x y) (fun x y => k_mul x y) (SP.se (ea := D.int) (x := s1.2.2.1) (sp_var (i := 8))) (se_opP (k := gShl) (ec := D.int) (k_shl (1 : Int) ((v_count - a2) - (1 : Int))) sp_c (sp_op (k := gSub) (d := D.int ((v_count - a2) - (1 : Int))) rfl (sp_op (k := gSub) (d := D.int (v_count - a2)) rfl (sp_var (i := 4)) (sp_var (i := 10))) sp_c)))) sa_nilE))))) (fun t => sim_law_shape t.1 t.2.1 t.2.2.1 t.2.2.2.1 t.2.2.2.2.1))) (fun _ _ he => ⟨_, rfl, (((he.set 14).set 15).set 16)⟩)) (fun (y3 : ((List Str) × (List Str) × Int)) => (sn_seq (sn_dput (i := 7) (l := s1.2.1) (f := D.int) (P := fun (v_sizes : (List (Str × Int))) => [some ((eL D.int) v_script), some (D.int v_at), some (D.int v_most), some (D.int v_top), some (D.int v_count), some ((eL D.str) v_names), some ((eL (e4 D.str (eL D.str) (eL D.str) (eL (eL D.int)))) s1.1), some ((eDS D.int) v_sizes), some (D.int s1.2.2.1), some (D.int s1.2.2.2), some (D.int a2), none, none, none, some ((eL D.str) y3.1), some ((eL D.str) y3.2.1), some (D.int y3.2.2), none]) key_S rfl (by exact (SP.se (ea := D.int) (x := (y3.1.length : Int)) (sp_b (k := gLen) (d := D.int (y3.1.length : Int)) (sa_cons (d := ((eL D.str) y3.1)) (sp_var (i := 14)) sa_nil) (g_lenL _)))) (by exact (se_ixP (ec := D.str) (k_atL v_names a2) (sp_var (i := 5)) (sp_var (i := 10))))) (fun (v_sizes : (List (Str × Int))) => (sn_seq (sn_asg (i := 8) (ea := D.int) (P := fun (v_total : Int) => [some ((eL D.int) v_script), some (D.int v_at), some (D.int v_most), some (D.int v_top), some (D.int v_count), some ((eL D.str) v_names), some ((eL (e4 D.str (eL D.str) (eL D.str) (eL (eL D.int)))) s1.1), some ((eDS D.int) v_sizes), some (D.int v_total), some (D.int s1.2.2.2), some (D.int a2), none, none, none, some ((eL D.str) y3.1), some ((eL D.str) y3.2.1), some (D.int y3.2.2), none]) (by exact (se_opP (k := gMul) (ec := D.int) (k_mul s1.2.2.1 (y3.1.length : Int)) (sp_var (i := 8)) (sp_b (k := gLen) (d := D.int (y3.1.length : Int)) (sa_cons (d := ((eL D.str) y3.1)) (sp_var (i := 14)) sa_nil) (g_lenL _))))) (fun (v_total : Int) => (sn_seq (sn_asg (i := 11) (ea := D.int) (P := fun (v_turns : Int) => [some ((eL D.int) v_script), some (D.int v_at), some (D.int v_most), some (D.int v_top), some (D.int v_count), some ((eL D.str) v_names), some ((eL (e4 D.str (eL D.str) (eL D.str) (eL (eL D.int)))) s1.1), some ((eDS D.int) v_sizes), some (D.int v_total), some (D.int s1.2.2.2), some (D.int a2), some (D.int v_turns), none, none, some ((eL D.str) y3.1), some ((eL D.str) y3.2.1), some (D.int y3.2.2), none]) (by exact (SP.se (ea := D.int) (x := (1 : Int)) sp_c))) (fun (v_turns : Int) => (sn_seq (sn_for (P := fun (s4 : Int) => [some ((eL D.int) v_script), some (D.int v_at), some (D.int v_most), some (D.int v_top), some (D.int v_count), some ((eL D.str) v_names), some ((eL (e4 D.str (eL D.str) (eL D.str) (eL (eL D.int)))) s1.1), some ((eDS D.int) v_sizes), some (D.int v_total), some (D.int s1.2.2.2), some (D.int a2), some (D.int s4), none, none, some ((eL D.str) y3.1), some ((eL D.str) y3.2.1), some (D.int y3.2.2), none]) (Pt := fun (s4 : Int) (a5 : Str) => [some ((eL D.int) v_script), some (D.int v_at), some (D.int v_most), some (D.int v_top), some (D.int v_count), some ((eL D.str) v_names), some ((eL (e4 D.str (eL D.str) (eL D.str) (eL (eL D.int)))) s1.1), some ((eDS D.int) v_sizes), some (D.int v_total), some (D.int s1.2.2.2), some (D.int a2), some (D.int s4), some (D.str a5), none, some ((eL D.str) y3.1), some ((eL D.str) y3.2.1), some (D.int y3.2.2), none]) (st := (T_law_rows_b1 v_sizes)) v_turns (si_lst (ea := D.str) (SP.se (ea := (eL D.str)) (x := y3.2.1) (sp_var (i := 15)))) (by exact And.intro rfl (And.intro rfl (And.intro rfl (And.intro rfl (And.intro rfl (And.intro rfl (And.intro rfl (And.intro rfl (And.intro rfl (And.intro rfl (And.intro rfl (And.intro rfl (And.intro rfl (And.intro rfl (And.intro rfl (trivial)))))))))))))))) (fun _ => tg_name) (fun s4 a5 => by unfold T_law_rows_b1; exact (sn_yield (P := fun (s4 : Int) => [some ((eL D.int) v_script), some (D.int v_at), some (D.int v_most), some (D.int v_top), some (D.int v_count), some ((eL D.str) v_names), some ((eL (e4 D.str (eL D.str) (eL D.str) (eL (eL D.int)))) s1.1), some ((eDS D.int) v_sizes), some (D.int v_total), some (D.int s1.2.2.2), some (D.int a2), some (D.int s4), none, none, some ((eL D.str) y3.1), some ((eL D.str) y3.2.1), some (D.int y3.2.2), none]) (sn_asg (i := 11) (ea := D.int) (P := fun (v_turns : Int) => [some ((eL D.int) v_script), some (D.int v_at), some (D.int v_most), some (D.int v_top), some (D.int v_count), some ((eL D.str) v_names), some ((eL (e4 D.str (eL D.str) (eL D.str) (eL (eL D.int)))) s1.1), some ((eDS D.int) v_sizes), some (D.int v_total), some (D.int s1.2.2.2), some (D.int a2), some (D.int v_turns), some (D.str a5), none, some ((eL D.str) y3.1), some ((eL D.str) y3.2.1), some (D.int y3.2.2), none]) (by exact (se_op (k := gMul) (ea := D.int) (eb := D.int) (ec := D.int) (h := fun x y => mulR x y) (fun x y => k_mul x y) (SP.se (ea := D.int) (x := s4) (sp_var (i := 11))) (se_dgetP (f := D.int) (l := v_sizes) (k := a5) key_S (sp_var (i := 7)) (sp_var (i := 12)))))) (fun (v_turns : Int) => v_turns) (fun (v_turns : Int) => by exact And.intro rfl (And.intro rfl (And.intro rfl (And.intro rfl (And.intro rfl (And.intro rfl (And.intro rfl (And.intro rfl (And.intro rfl (And.intro rfl (And.intro rfl (And.intro rfl (And.intro rfl (And.intro rfl (And.intro rfl (trivial))))))))))))))))))) (fun (v_turns : Int) => (sn_seq (sn_asg (i := 13) (ea := (eL (eL D.int))) (P := fun (v_table : (List (List Int))) => [some ((eL D.int) v_script), some (D.int v_at), some (D.int v_most), some (D.int v_top), some (D.int v_count), some ((eL D.str) v_names), some ((eL (e4 D.str (eL D.str) (eL D.str) (eL (eL D.int)))) s1.1), some ((eDS D.int) v_sizes), some (D.int v_total), some (D.int s1.2.2.2), some (D.int a2), some (D.int v_turns), none, some ((eL (eL D.int)) v_table), some ((eL D.str) y3.1), some ((eL D.str) y3.2.1), some (D.int y3.2.2), none]) (by exact (se_comp (Pt := fun (a6 : Int) => [some ((eL D.int) v_script), some (D.int v_at), some (D.int v_most), some (D.int v_top), some (D.int v_count), some ((eL D.str) v_names), some ((eL (e4 D.str (eL D.str) (eL D.str) (eL (eL D.int)))) s1.1), some ((eDS D.int) v_sizes), some (D.int v_total), some (D.int s1.2.2.2), some (D.int a2), some (D.int v_turns), none, none, some ((eL D.str) y3.1), some ((eL D.str) y3.2.1), some (D.int y3.2.2), some (D.int a6)]) (si_rng1 (fs := aNil) (SP.se (ea := D.int) (x := v_turns) (sp_var (i := 11)))) (TGs.le (p' := [some ((eL D.int) v_script), some (D.int v_at), some (D.int v_most), some (D.int v_top), some (D.int v_count), some ((eL D.str) v_names), some ((eL (e4 D.str (eL D.str) (eL D.str) (eL (eL D.int)))) s1.1), some ((eDS D.int) v_sizes), some (D.int v_total), some (D.int s1.2.2.2), some (D.int a2), some (D.int v_turns), none, none, some ((eL D.str) y3.1), some ((eL D.str) y3.2.1), some (D.int y3.2.2), none]) ((show PLe [some ((eL D.int) v_script), some (D.int v_at), some (D.int v_most), some (D.int v_top), some (D.int v_count), some ((eL D.str) v_names), some ((eL (e4 D.str (eL D.str) (eL D.str) (eL (eL D.int)))) s1.1), some ((eDS D.int) v_sizes), some (D.int v_total), some (D.int s1.2.2.2), some (D.int a2), some (D.int v_turns), none, none, some ((eL D.str) y3.1), some ((eL D.str) y3.2.1), some (D.int y3.2.2), none] _ by exact And.intro rfl (And.intro rfl (And.intro rfl (And.intro rfl (And.intro rfl (And.intro rfl (And.intro rfl (And.intro rfl (And.intro rfl (And.intro rfl (And.intro rfl (And.intro rfl (And.intro rfl (And.intro rfl (And.intro rfl (trivial))))))))))))))))) tg_name) (fun a6 => (by exact (SCp.sc sc_true))) (fun a6 => (by exact (se_callE (T := fun (t : (Int × Int × Int × Unit)) => T_law_cuts t.1 t.2.1 t.2.2.1) (sa_consE (se_call (sa_cons (d := ((eL D.int) v_script)) (sp_var (i := 0)) (sa_cons (d := (D.int (s1.2.2.2 + a6))) (sp_op (k := gAdd) (d := D.int (s1.2.2.2 + a6)) rfl (sp_var (i := 9)) (sp_var (i := 17))) sa_nil)) (sim_law_cell v_script (s1.2.2.2 + a6))) (sa_consE (SP.se (ea := D.int) (x := (y3.1.length : Int)) (sp_b (k := gLen) (d := D.int (y3.1.length : Int)) (sa_cons (d := ((eL D.str) y3.1)) (sp_var (i := 14)) sa_nil) (g_lenL _))) (sa_consE (SP.se (ea := D.int) (x := y3.2.2) (sp_var (i := 16))) sa_nilE))) (fun t => sim_law_cuts t.1 t.2.1 t.2.2.1))))))) (fun (v_table : (List (List Int))) => (sn_seq (sn_asg (i := 9) (ea := D.int) (P := fun (v_spot : Int) => [some ((eL D.int) v_script), some (D.int v_at), some (D.int v_most), some (D.int v_top), some (D.int v_count), some ((eL D.str) v_names), some ((eL (e4 D.str (eL D.str) (eL D.str) (eL (eL D.int)))) s1.1), some ((eDS D.int) v_sizes), some (D.int v_total), some (D.int v_spot), some (D.int a2), some (D.int v_turns), none, some ((eL (eL D.int)) v_table), some ((eL D.str) y3.1), some ((eL D.str) y3.2.1), some (D.int y3.2.2), none]) (by exact (SP.se (ea := D.int) (x := (s1.2.2.2 + v_turns)) (sp_op (k := gAdd) (d := D.int (s1.2.2.2 + v_turns)) rfl (sp_var (i := 9)) (sp_var (i := 11)))))) (fun (v_spot : Int) => (sn_yield (P := fun (s1 : ((List (Str × (List Str) × (List Str) × (List (List Int)))) × (List (Str × Int)) × Int × Int)) => [some ((eL D.int) v_script), some (D.int v_at), some (D.int v_most), some (D.int v_top), some (D.int v_count), some ((eL D.str) v_names), some ((eL (e4 D.str (eL D.str) (eL D.str) (eL (eL D.int)))) s1.1), some ((eDS D.int) s1.2.1), some (D.int s1.2.2.1), some (D.int s1.2.2.2), none, none, none, none, none, none, none, none]) (sn_app (i := 6) (l := s1.1) (ea := (e4 D.str (eL D.str) (eL D.str) (eL (eL D.int)))) (P := fun (v_rows_here : (List (Str × (List Str) × (List Str) × (List (List Int))))) => [some ((eL D.int) v_script), some (D.int v_at), some (D.int v_most), some (D.int v_top), some (D.int v_count), some ((eL D.str) v_names), some ((eL (e4 D.str (eL D.str) (eL D.str) (eL (eL D.int)))) v_rows_here), some ((eDS D.int) v_sizes), some (D.int v_total), some (D.int v_spot), some (D.int a2), some (D.int v_turns), none, some ((eL (eL D.int)) v_table), some ((eL D.str) y3.1), some ((eL D.str) y3.2.1), some (D.int y3.2.2), none]) rfl (se_tup (ea := (e4 D.str (eL D.str) (eL D.str) (eL (eL D.int)))) (T := fun (t : (Str × (List Str) × (List Str) × (List (List Int)) × Unit)) => (t.1, t.2.1, t.2.2.1, t.2.2.2.1)) (sa_consE (se_ixP (ec := D.str) (k_atL v_names a2) (sp_var (i := 5)) (sp_var (i := 10))) (sa_consE (SP.se (ea := (eL D.str)) (x := y3.1) (sp_var (i := 14))) (sa_consE (SP.se (ea := (eL D.str)) (x := y3.2.1) (sp_var (i := 15))) (sa_consE (SP.se (ea := (eL (eL D.int))) (x := v_table) (sp_var (i := 13))) sa_nilE)))) (fun _ => rfl))) (fun (v_rows_here : (List (Str × (List Str) × (List Str) × (List (List Int))))) => (v_rows_here, v_sizes, v_total, v_spot)) (fun (v_rows_here : (List (Str × (List Str) × (List Str) × (List (List Int))))) => by exact And.intro rfl (And.intro rfl (And.intro rfl (And.intro rfl (And.intro rfl (And.intro rfl (And.intro rfl (And.intro rfl (And.intro rfl (And.intro rfl (trivial)))))))))))))))))))))))))))) (fun (y7 : ((List (Str × (List Str) × (List Str) × (List (List Int)))) × (List (Str × Int)) × Int × Int)) => (sx_ret (by exact (SP.se (ea := (eL (e4 D.str (eL D.str) (eL D.str) (eL (eL D.int))))) (x := y7.1) (sp_var (i := 6)))))))))))))))))))) (And.intro rfl (And.intro rfl (And.intro rfl (And.intro rfl (trivial)))))
theorem T_law_words_ok (c m : Int) (h0 : 0 ≤ m) (h1 : m ≤ 8) : ∃ ws : List Str, T_law_words c m = .ok ws ∧ ws.length = m.toNat ∧ ws.Nodup ∧ ∀ w ∈ ws, isW w = true := by
  unfold T_law_words
  by_cases h3 : c % 3 = 0
  · have i0 := Int.emod_nonneg (c / 3) (show (26 : Int) ≠ 0 by decide)
    have i1 := Int.emod_lt_of_pos (c / 3) (show (0 : Int) < 26 by decide)
    have cs : ∀ k : Int, 0 ≤ k → k < 8 → (repS (lt (c / 3 % 26)) (k + 1)).cps.toList = List.replicate (k + 1).toNat (abc.getD (c / 3 % 26).toNat 0) := fun k _ _ => by
      rw [repS_list]
      show (List.replicate _ [abc.getD (c / 3 % 26).toNat 0]).flatten = _
      rw [List.flatten_replicate_singleton]
    have e := cmpR_map (g := fun a1 => ((atSR "abcdefghijklmnopqrstuvwxyz" (c / 3 % 26)).bind fun x => (R.ok (a1 + 1)).bind fun y => mulSR x y)) (f := fun a => repS (lt (c / 3 % 26)) (a + 1)) (l := rng 0 m) fun a ha => by
      have := rng_mem ha
      rw [atS_abc i0 i1]
      simp only [R.bind_ok]
      exact if_pos ⟨by omega, by omega, by show 1 * _ ≤ _; rw [sizeLine_eq]; omega⟩
    simp only [R.bind_ok] at e
    refine ⟨(rng 0 m).map fun a => repS (lt (c / 3 % 26)) (a + 1), by simp only [h3, decide_true, R.bind_ok, if_true, rngR1_ok (show -1000000000 ≤ m by omega) (by omega), e, fitN_ok (show ((rng 0 m).map fun a => repS (lt (c / 3 % 26)) (a + 1)).length ≤ sizeLine by rw [List.length_map, rng_len, sizeLine_eq]; omega)], ?_, ?_, ?_⟩
    · rw [List.length_map, rng_len]; omega
    · refine nodup_map_of (rng_nodup _ _) fun a ha b hb hab => ?_
      have := rng_mem ha
      have := rng_mem hb
      have h : (repS (lt (c / 3 % 26)) (a + 1)).cps.toList.length = (repS (lt (c / 3 % 26)) (b + 1)).cps.toList.length := congrArg (fun z : Str => z.cps.toList.length) hab
      rw [cs a (by omega) (by omega), cs b (by omega) (by omega), List.length_replicate, List.length_replicate] at h
      omega
    · intro w hw
      obtain ⟨a, ha, rfl⟩ := List.mem_map.mp hw
      have := rng_mem ha
      refine isW_of (cs a (by omega) (by omega)) (by rw [List.length_replicate]; omega) (by rw [List.length_replicate]; omega) fun x hx => ?_
      rw [List.eq_of_mem_replicate hx]
      exact lt_mem i0 i1
  · have s0 := Int.emod_nonneg (c / 3) (show (8 : Int) ≠ 0 by decide)
    have s1 := Int.emod_lt_of_pos (c / 3) (show (0 : Int) < 8 by decide)
    obtain ⟨ss, st, e1, e2, e3, e4, e5⟩ := stem_ok (fun a => c / 24 + (a + 1) * (a + 5)) (c / 3 % 8) s0 (by omega)
    have mk : ∀ a ∈ rng 0 (c / 3 % 8), (fun (a2 : Int) => ((R.ok ("abcdefghijklmnopqrstuvwxyz" : Str)).bind fun x => (((R.ok (c / 24)).bind fun x => (mulR (a2 + 1) (a2 + 5)).bind fun y => R.ok (x + y)).bind fun x => R.ok (x % 26)).bind fun y => atSR x y)) a = atSR "abcdefghijklmnopqrstuvwxyz" ((c / 24 + (a + 1) * (a + 5)) % 26) := fun a ha => by
      have := rng_mem ha
      simp only [R.bind_ok, mulR_ok (show IntMulOk (a + 1) (a + 5) from mulOk_left (by omega) (by omega))]
    have e1' : cmpR (fun _ => R.ok true) (fun (a2 : Int) => ((R.ok ("abcdefghijklmnopqrstuvwxyz" : Str)).bind fun x => (((R.ok (c / 24)).bind fun x => (mulR (a2 + 1) (a2 + 5)).bind fun y => R.ok (x + y)).bind fun x => R.ok (x % 26)).bind fun y => atSR x y)) (rng 0 (c / 3 % 8)) = .ok ss := by
      rw [← e1]
      have gen : ∀ (l : List Int) (g g' : Int → R Str), (∀ a ∈ l, g a = g' a) → cmpR (fun _ => R.ok true) g l = cmpR (fun _ => R.ok true) g' l := fun l g g' h => by
        induction l with
        | nil => rfl
        | cons a l ih => rw [cmpR, cmpR, h a (by simp), ih fun b hb => h b (by simp [hb])]
      exact gen _ _ _ mk
    simp only [R.bind_ok] at e1'
    have a0 := Int.emod_nonneg (c / 48) (show (c / 3 % 8 + 1) ≠ 0 by omega)
    have a1 := Int.emod_lt_of_pos (c / 48) (show (0 : Int) < c / 3 % 8 + 1 by omega)
    have wk : ∀ a ∈ rng 0 m, _ := fun a (ha : a ∈ rng 0 m) => word_ok (st := st) (at_ := c / 48 % (c / 3 % 8 + 1)) (j := (c / 624 + 3 * a) % 26) (by omega) e5 a0 (by omega) (Int.emod_nonneg _ (by decide)) (Int.emod_lt_of_pos _ (by decide))
    have e6 := cmpR_map (l := rng 0 m) fun a ha => (wk a ha).1
    refine ⟨(rng 0 m).map fun a => wordAt st.cps.toList (c / 48 % (c / 3 % 8 + 1)).toNat (abc.getD ((c / 624 + 3 * a) % 26).toNat 0), by simp only [h3, decide_false, R.bind_ok, Bool.false_eq_true, if_false, rngR1_ok (show -1000000000 ≤ c / 3 % 8 by omega) (show c / 3 % 8 ≤ 1000000000 by omega), e1', fitN_ok e2, e3, modR_ok (show (0 : Int) < c / 3 % 8 + 1 by omega), rngR1_ok (show -1000000000 ≤ m by omega) (show m ≤ 1000000000 by omega), e6, fitN_ok (show ((rng 0 m).map fun a => wordAt st.cps.toList (c / 48 % (c / 3 % 8 + 1)).toNat (abc.getD ((c / 624 + 3 * a) % 26).toNat 0)).length ≤ sizeLine by rw [List.length_map, rng_len, sizeLine_eq]; omega)], ?_, ?_, ?_⟩
    · rw [List.length_map, rng_len]; omega
    · refine nodup_map_of (rng_nodup _ _) fun a ha b hb hab => ?_
      have := rng_mem ha
      have := rng_mem hb
      have h := wordAt_inj (by rw [← len_cps]; omega) hab
      have h := lt_inj (Int.emod_nonneg _ (by decide)) (Int.emod_lt_of_pos _ (by decide)) (Int.emod_nonneg _ (by decide)) (Int.emod_lt_of_pos _ (by decide)) h
      exact mod26_inj (by omega) (by omega) (by omega) (by omega) h
    · intro w hw
      obtain ⟨a, ha, rfl⟩ := List.mem_map.mp hw
      exact (wk a ha).2
theorem T_law_cuts_ok (c size many : Int) (h0 : 1 ≤ size) (h1 : size ≤ 100) (hm : 0 ≤ many) : ∃ row : List Int, T_law_cuts c size many = .ok row ∧ (row.length : Int) = size ∧ (∀ x ∈ row, 0 ≤ x) ∧ row.sum = many := by
  unfold T_law_cuts
  simp only [R.bind_ok, rngR1_ok (show -1000000000 ≤ size - 1 by omega) (show size - 1 ≤ 1000000000 by omega)]
  obtain ⟨s, e, i1, i2, i3, i4, i5⟩ := foldR_inv (f := T_law_cuts_b1 c) (fun (rem : List Int) (s : List Int × Int) => (s.1.length : Int) + (rem.length : Int) = size - 1 ∧ (∀ a ∈ rem, 0 ≤ a ∧ a < size) ∧ (∀ x ∈ s.1, 0 ≤ x) ∧ s.1.sum + s.2 = many ∧ 0 ≤ s.2) (rng 0 (size - 1)) ([], many) ⟨by rw [rng_len]; show (0 : Int) + _ = _; omega, fun a ha => by have := rng_mem ha; omega, fun x hx => (nomatch hx), by show (0 : Int) + many = many; omega, hm⟩ fun a rem s ⟨j1, j2, j3, j4, j5⟩ => by
    obtain ⟨nums, left⟩ := s
    simp only at j1 j3 j4 j5
    have ja := j2 a (by simp)
    have hl : left + 1 > 0 := by omega
    have one : ∃ o : Int, 0 ≤ o ∧ o ≤ left ∧ T_law_cuts_b1 c (nums, left) a = .ok (nums ++ [o], left - o) := by
      unfold T_law_cuts_b1
      have a7 : IntMulOk (7 * a) a := mulOk_left (by omega) (by omega)
      have sq : 0 ≤ 7 * a * a ∧ 7 * a * a ≤ 700 * 100 := ⟨Int.mul_nonneg (by omega) (by omega), Int.mul_le_mul (by omega) (by omega) (by omega) (by omega)⟩
      have mo : IntMulOk c (48271 + 7 * a * a) := mulOk_right (by omega) (by omega)
      have ap : nums.length < sizeLine := by rw [sizeLine_eq]; simp only [List.length_cons] at j1; omega
      simp only [R.bind_ok, mulR_ok a7, mulR_ok mo, modR_ok hl]
      by_cases h3 : c % 3 = 0
      · have dv : CDivP c (3 + a) := divP_small (by omega) (by omega)
        have q0 := Int.emod_nonneg (c / (3 + a)) (show (2 : Int) ≠ 0 by decide)
        have q1 := Int.emod_lt_of_pos (c / (3 + a)) (show (0 : Int) < 2 by decide)
        obtain ⟨o, ho, _, eo⟩ := atR_ex (l := [(0 : Int), left]) q0 q1
        refine ⟨o, ?_, ?_, ?_⟩
        · simp at ho; omega
        · simp at ho; omega
        · simp only [h3, decide_true, if_true, divR_ok dv, R.bind_ok, eo, appR_ok ap]
      · refine ⟨c * (48271 + 7 * a * a) % 2147483647 % (left + 1), Int.emod_nonneg _ (by omega), ?_, ?_⟩
        · have := Int.emod_lt_of_pos (c * (48271 + 7 * a * a) % 2147483647) hl
          omega
        · simp only [h3, decide_false, Bool.false_eq_true, if_false, R.bind_ok, appR_ok ap]
    obtain ⟨o, o0, o1, eo⟩ := one
    refine ⟨_, eo, ?_, fun b hb => j2 b (by simp [hb]), ?_, ?_, ?_⟩
    · simp only [List.length_cons] at j1
      simp only [List.length_append, List.length_singleton]
      omega
    · intro x hx
      simp only [List.mem_append, List.mem_singleton] at hx
      rcases hx with hx | rfl
      · exact j3 x hx
      · exact o0
    · simp only [List.sum_append, List.sum_singleton]
      omega
    · simp only
      omega
  rw [e, R.bind_ok]
  simp only [List.length_nil] at i1
  refine ⟨s.1 ++ [s.2], catR_ok (by rw [sizeLine_eq]; simp; omega), ?_, ?_, ?_⟩
  · simp only [List.length_append, List.length_singleton]; omega
  · intro x hx
    simp only [List.mem_append, List.mem_singleton] at hx
    rcases hx with hx | rfl
    · exact i3 x hx
    · exact i5
  · simp only [List.sum_append, List.sum_singleton]; omega
theorem shl1_ok {a : Int} (h0 : 0 ≤ a) (h1 : a ≤ 60) : shlR 1 a = .ok (2 ^ a.toNat) := by
  unfold shlR
  rw [if_pos ⟨h0, by have : (Builtin.Int.intBits 1 : Int) = 1 := by decide
                     omega⟩, Int.one_mul]
theorem two_pow_le {n m : Nat} (h : n ≤ m) : (2 : Int) ^ n ≤ 2 ^ m := by
  have := Nat.pow_le_pow_right (show 0 < 2 by decide) h
  have h2 : ((2 ^ n : Nat) : Int) ≤ ((2 ^ m : Nat) : Int) := by omega
  simpa using h2
structure ElOk (names : List Str) (k : Nat) (es : List Str) : Prop where
  len : es.length ≤ 3
  nd : es.Nodup
  mem : ∀ e ∈ es, e ∈ names.take k
theorem ElOk.perm {names : List Str} {k : Nat} {es fs : List Str} (h : ElOk names k es) (p : fs.Perm es) : ElOk names k fs := ⟨by rw [p.length_eq]; exact h.len, p.nodup_iff.mpr h.nd, fun e he => h.mem e (p.mem_iff.mp he)⟩
structure ShapeOk (names : List Str) (k : Nat) (room : Int) (y : List Str × List Str × Int) : Prop where
  vl : 2 ≤ y.1.length ∧ y.1.length ≤ 4
  vr : y.1.length = 2 ∨ (y.1.length : Int) ≤ room
  vn : y.1.Nodup
  vw : ∀ v ∈ y.1, isW v = true
  el : ElOk names k y.2.1
  mn : 1 ≤ y.2.2 ∧ y.2.2 ≤ 1000000000
theorem bindP {α β : Type} {x : R α} {f : α → R β} (P : α → Prop) {Q : β → Prop} (h : ∃ a, x = .ok a ∧ P a) (k : ∀ a, P a → ∃ b, f a = .ok b ∧ Q b) : ∃ b, x.bind f = .ok b ∧ Q b := by
  obtain ⟨a, e, p⟩ := h
  rw [e, R.bind_ok]
  exact k a p
theorem T_law_shape_ok (ns : List Int) (at_ k room : Int) (names : List Str) (k0 : 0 ≤ k) (k1 : k ≤ 10) (hn : k ≤ names.length) (nd : names.Nodup) (a0 : 0 ≤ at_) (a1 : at_ ≤ 1000000) : ∃ y, T_law_shape ns at_ k names room = .ok y ∧ ShapeOk names k.toNat room y := by
  unfold T_law_shape
  rw [T_law_cell_eq ns (by omega) (by omega), R.bind_ok]
  generalize cell ns (at_ + 2 + 2 * k).toNat = sh
  rw [T_law_cell_eq ns (show 0 ≤ at_ + 3 + 2 * k by omega) (by omega), T_law_cell_eq ns (show 0 ≤ at_ + 1 by omega) (by omega)]
  generalize cell ns (at_ + 3 + 2 * k).toNat = ot
  generalize cell ns (at_ + 1).toNat = ba
  refine bindP (fun z : Int => 2 ≤ z ∧ z ≤ 4 ∧ (z = 2 ∨ z ≤ room)) ?_ fun size hs => ?_
  · have q0 := Int.emod_nonneg sh (show (6 : Int) ≠ 0 by decide)
    have q1 := Int.emod_lt_of_pos sh (show (0 : Int) < 6 by decide)
    obtain ⟨o, ho, _, eo⟩ := atR_ex (l := [(0 : Int), 0, 1, 0, 2, 0]) q0 q1
    simp only [eo, R.bind_ok]
    have ho : 0 ≤ o ∧ o ≤ 2 := by simp at ho; omega
    refine ⟨_, rfl, ?_⟩
    by_cases r2 : room > 2
    · rw [if_pos r2]
      by_cases r3 : room < 2 + o
      · rw [if_pos r3]; omega
      · rw [if_neg r3]; omega
    · rw [if_neg r2]
      by_cases r3 : (2 : Int) < 2 + o
      · rw [if_pos r3]; omega
      · rw [if_neg r3]; omega
  refine bindP (ElOk names k.toNat) ?_ fun es he => ?_
  · have e := cmpR_filter (c := fun (a1 : Int) => (((((R.ok (sh / (6 : Int))).bind fun x => (shlR (1 : Int) a1).bind fun y => divR x y).bind fun x => R.ok (x % (2 : Int))).bind fun x => (R.ok (1 : Int)).bind fun y => R.ok (decide (x = y))).bind fun a => if a then (R.ok (decide ((0 : Int) < ((sh / (7 : Int)) % (4 : Int))))) else R.ok false)) (g := fun (a1 : Int) => (atR names a1)) (p := fun a => decide (sh / 6 / 2 ^ a.toNat % 2 = 1) && decide ((0 : Int) < sh / 7 % 4)) (f := fun a => names.getD a.toNat "") (l := rng 0 k) (fun a ha => by
      have := rng_mem ha
      have pw := two_pow_le (n := a.toNat) (m := 10) (by omega)
      have pp : (0 : Int) < 2 ^ a.toNat := Int.pow_pos (by decide)
      have dv : CDivP (sh / 6) (2 ^ a.toNat) := divP_small pp (by omega)
      simp only [R.bind_ok, shl1_ok (show 0 ≤ a by omega) (show a ≤ 60 by omega), divR_ok dv]
      by_cases h : sh / 6 / 2 ^ a.toNat % 2 = 1 <;> simp [h]) (fun a ha _ => by
      have := rng_mem ha
      have hl : a.toNat < names.length := by omega
      rw [atR_of (show 0 ≤ a by omega) (List.getElem?_eq_getElem hl), List.getD_eq_getElem?_getD, List.getElem?_eq_getElem hl]
      rfl)
    simp only [R.bind_ok] at e
    have hlen : (((rng 0 k).filter fun a => decide (sh / 6 / 2 ^ a.toNat % 2 = 1) && decide ((0 : Int) < sh / 7 % 4)).map fun a => names.getD a.toNat "").length ≤ sizeLine := by
      rw [List.length_map]
      have := List.length_filter_le (fun a => decide (sh / 6 / 2 ^ a.toNat % 2 = 1) && decide ((0 : Int) < sh / 7 % 4)) (rng 0 k)
      rw [rng_len] at this
      rw [sizeLine_eq]
      omega
    simp only [R.bind_ok, rngR1_ok (show -1000000000 ≤ k by omega) (show k ≤ 1000000000 by omega), e, fitN_ok hlen]
    refine ⟨_, rfl, ?_⟩
    rw [cutL_take _ (by decide)]
    have at' : ∀ a ∈ rng 0 k, ∃ h : a.toNat < names.length, names.getD a.toNat "" = names[a.toNat] := fun a ha => by
      have := rng_mem ha
      have hl : a.toNat < names.length := by omega
      exact ⟨hl, by rw [List.getD_eq_getElem?_getD, List.getElem?_eq_getElem hl]; rfl⟩
    refine ⟨by rw [List.length_take]; exact Nat.min_le_left _ _, List.Nodup.sublist (List.take_sublist _ _) (nodup_map_of ((rng_nodup _ _).sublist List.filter_sublist) fun a ha b hb hab => ?_), fun x hx => ?_⟩
    · have ha := (List.mem_filter.mp ha).1
      have hb := (List.mem_filter.mp hb).1
      obtain ⟨l1, e1⟩ := at' a ha
      obtain ⟨l2, e2⟩ := at' b hb
      rw [e1, e2] at hab
      have := (List.getElem_inj nd).mp hab
      have := rng_mem ha
      have := rng_mem hb
      omega
    · obtain ⟨a, ha, rfl⟩ := List.mem_map.mp (List.mem_of_mem_take hx)
      have ha := (List.mem_filter.mp ha).1
      obtain ⟨l1, e1⟩ := at' a ha
      have := rng_mem ha
      rw [e1]
      exact List.mem_of_getElem? (i := a.toNat) (by rw [List.getElem?_take_of_lt (by omega)]; exact List.getElem?_eq_getElem l1)
  have mp : (0 : Int) < (if (es.length : Int) > 1 then (es.length : Int) else 1) := by split <;> omega
  rw [modR_ok mp, R.bind_ok]
  have t0 := Int.emod_nonneg (sh / 11) (show (if (es.length : Int) > 1 then (es.length : Int) else 1) ≠ 0 by omega)
  generalize sh / 11 % (if (es.length : Int) > 1 then (es.length : Int) else 1) = tu at *
  refine bindP (ElOk names k.toNat) ?_ fun es2 he2 => ?_
  · simp only [R.bind_ok, cutL_take es t0, cutL_drop es t0]
    have pm : (es.drop tu.toNat ++ es.take tu.toNat).Perm es := List.perm_append_comm.trans (by rw [List.take_append_drop])
    refine ⟨_, catR_ok ?_, he.perm pm⟩
    have := pm.length_eq
    rw [List.length_append] at this
    have := he.len
    rw [sizeLine_eq]
    omega
  refine bindP (ElOk names k.toNat) ?_ fun es3 he3 => ?_
  · rw [R.bind_ok]
    by_cases h : sh / 5 % 2 = 1
    · simp only [h, decide_true, if_true, R.bind_ok, cmpR_id]
      rw [fitN_ok (by rw [List.length_reverse, sizeLine_eq]; have := he2.len; omega)]
      exact ⟨_, rfl, he2.perm (List.reverse_perm _)⟩
    · simp only [h, decide_false, Bool.false_eq_true, if_false, R.bind_ok]
      exact ⟨_, rfl, he2⟩
  rw [R.bind_ok, R.bind_ok]
  have q0 := Int.emod_nonneg (ot / 4) (show (4 : Int) ≠ 0 by decide)
  have q1 := Int.emod_lt_of_pos (ot / 4) (show (0 : Int) < 4 by decide)
  obtain ⟨wc, _, _, ewc⟩ := atR_ex (l := [ba / 7, ba, ot / 12, ot / 16]) q0 q1
  obtain ⟨vs, v1, v2, v3, v4⟩ := T_law_words_ok wc size (by omega) (by omega)
  have p0 := Int.emod_nonneg ot (show (2 : Int) ≠ 0 by decide)
  have p1 := Int.emod_lt_of_pos ot (show (0 : Int) < 2 by decide)
  obtain ⟨md, hmd, _, emd⟩ := atR_ex (l := [(6 : Int), 1000000000]) p0 p1
  have hmd : md = 6 ∨ md = 1000000000 := by simpa using hmd
  simp only [ewc, R.bind_ok, v1, emd, modR_ok (show 0 < md by omega)]
  refine ⟨_, rfl, ⟨by show 2 ≤ vs.length ∧ vs.length ≤ 4; omega, by show vs.length = 2 ∨ (vs.length : Int) ≤ room; omega, v3, v4, he3, ?_⟩⟩
  have m0 := Int.emod_nonneg (ot / 2) (show md ≠ 0 by omega)
  have m1 := Int.emod_lt_of_pos (ot / 2) (show 0 < md by omega)
  show 1 ≤ 1 + ot / 2 % md ∧ 1 + ot / 2 % md ≤ 1000000000
  omega
def GoodL (rows : List NRow) : Prop := ∀ (k : Nat) (r : NRow), rows[k]? = some r → GoodR ((rows.take k).map dueE) (waysF 1 (rows.take k)) r ∧ RowSz r
theorem waysF_snoc (w : Int) (rs : List NRow) (r : NRow) : waysF w (rs ++ [r]) = waysF w rs * (r.2.1.length : Int) := by
  unfold waysF
  rw [List.foldl_append]
  rfl
theorem GoodL.take {rows : List NRow} (h : GoodL rows) : ∀ k, goodRows [] 1 (rows.take k)
  | 0 => trivial
  | k + 1 => by
    cases hr : rows[k]? with
    | none =>
      rw [List.getElem?_eq_none_iff] at hr
      rw [List.take_of_length_le (by omega)]
      have := h.take k
      rwa [List.take_of_length_le hr] at this
    | some r =>
      obtain ⟨g, s⟩ := h k r hr
      rw [List.take_add_one, hr]
      exact goodRows_snoc _ _ _ _ (h.take k) s (by rw [List.nil_append]; exact g.step)
theorem GoodL.good {rows : List NRow} (h : GoodL rows) : goodRows [] 1 rows := by
  have := h.take rows.length
  rwa [List.take_length] at this
theorem GoodL.snoc {rows : List NRow} {r : NRow} (h : GoodL rows) (g : GoodR (rows.map dueE) (waysF 1 rows) r) (s : RowSz r) : GoodL (rows ++ [r]) := by
  intro k x hx
  rw [List.getElem?_append] at hx
  split at hx
  · rename_i hk
    rw [List.take_append_of_le_length (by omega)]
    exact h k x hx
  · rename_i hk
    have : k = rows.length := by
      rcases Nat.eq_or_lt_of_le (Nat.le_of_not_lt hk) with e | e
      · exact e.symm
      · rw [List.getElem?_eq_none (by simp; omega)] at hx
        cases hx
    subst this
    rw [Nat.sub_self] at hx
    have hx : r = x := by simpa using hx
    subst hx
    rw [List.take_left]
    exact ⟨g, s⟩
theorem rng_nil {a b : Int} (h : b ≤ a) : rng a b = [] := by
  unfold rng
  rw [show (b - a).toNat = 0 by omega]
  rfl
theorem rng_cons {a b : Int} (h : a < b) : rng a b = a :: rng (a + 1) b := by
  unfold rng
  rw [show (b - a).toNat = (b - (a + 1)).toNat + 1 by omega, List.range_succ_eq_map, List.map_cons, List.map_map]
  congr 1
  · omega
  · refine List.map_congr_left fun i _ => ?_
    show a + ((i + 1 : Nat) : Int) = _
    omega
theorem choices_le {net : List NE} : ∀ (es : List Str) (c : Int), (∀ e ∈ es, (valsOf net e).length ≤ 4) → 0 ≤ c → es.foldl (fun c e => c * ((valsOf net e).length : Int)) c ≤ c * 4 ^ es.length
  | [], c, _, _ => by rw [List.foldl_nil, List.length_nil, Int.pow_zero, Int.mul_one]; exact Int.le_refl _
  | e :: es, c, h, h0 => by
    have hv := h e (by simp)
    have := choices_le es (c * ((valsOf net e).length : Int)) (fun x hx => h x (by simp [hx])) (Int.mul_nonneg h0 (by omega))
    refine Int.le_trans this ?_
    rw [List.length_cons, Int.pow_succ, Int.mul_comm (4 ^ es.length) 4, ← Int.mul_assoc]
    exact Int.mul_le_mul_of_nonneg_right (Int.mul_le_mul_of_nonneg_left (by omega) h0) (Int.le_of_lt (Int.pow_pos (by decide)))
def szs (rows : List NRow) : List (Str × Int) := rows.map fun r => (r.1, (r.2.1.length : Int))
theorem dget_szs {rows more : List NRow} {e : Str} (h : e ∈ rows.map (·.1)) : dgetR (szs (rows ++ more)) e = .ok ((valsOf (rows.map dueE) e).length : Int) := by
  have h' : e ∈ (rows.map dueE).map (·.1) := by rw [List.map_map]; exact h
  obtain ⟨x, _, _, hf⟩ := find_mem h'
  unfold dgetR valD szs valsOf
  rw [hf]
  rw [List.find?_map] at hf
  rw [List.find?_map, List.find?_append]
  have hc : ((fun e_1 : NE => decide (e_1.1 = e)) ∘ dueE) = ((fun kv : Str × Int => decide (kv.1 = e)) ∘ fun r : NRow => (r.1, (r.2.1.length : Int))) := rfl
  rw [hc] at hf
  cases hr : rows.find? ((fun kv : Str × Int => decide (kv.1 = e)) ∘ fun r : NRow => (r.1, (r.2.1.length : Int))) with
  | none => rw [hr] at hf; cases hf
  | some r =>
    rw [hr] at hf
    have : dueE r = x := by simpa using hf
    subst this
    rfl
theorem put_szs {rows : List NRow} {r : NRow} (h : r.1 ∉ rows.map (·.1)) (hl : rows.length < sizeLine) : putN (szs rows) r.1 (r.2.1.length : Int) = .ok (szs (rows ++ [r])) := by
  unfold putN putD
  rw [if_pos (by unfold szs; rw [List.length_map]; exact hl), if_neg]
  · unfold szs
    rw [List.map_append]
    rfl
  · rw [List.any_eq_true]
    rintro ⟨kv, hk, he⟩
    unfold szs at hk
    obtain ⟨x, hx, rfl⟩ := List.mem_map.mp hk
    exact h (List.mem_map.mpr ⟨x, hx, by simpa using he⟩)
theorem rows_turns {rows more : List NRow} (hn : NetSz (rows.map dueE)) : ∀ (es : List Str) (c : Int), (∀ e ∈ es, e ∈ rows.map (·.1)) → foldR (T_law_rows_b1 (szs (rows ++ more))) es c = .ok (es.foldl (fun c e => c * ((valsOf (rows.map dueE) e).length : Int)) c)
  | [], c, _ => rfl
  | e :: es, c, h => by
    have he := h e (by simp)
    have hv := valsOf_len hn (nm := e) (by rw [List.map_map]; exact he)
    rw [foldR, T_law_rows_b1]
    simp only [R.bind_ok, dget_szs he, mulR_ok (show IntMulOk c ((valsOf (rows.map dueE) e).length : Int) from mulOk_right (by omega) (by omega))]
    exact rows_turns hn es _ fun x hx => h x (by simp [hx])
structure RI (names : List Str) (at_ count B : Int) (rem : List Int) (s : List NRow × List (Str × Int) × Int × Int) : Prop where
  rem : rem = rng (s.1.length : Int) count
  le : (s.1.length : Int) ≤ count
  good : GoodL s.1
  nms : s.1.map (·.1) = names.take s.1.length
  sz : s.2.1 = szs s.1
  tot : s.2.2.1 = waysF 1 s.1
  pos : 1 ≤ s.2.2.1
  bnd : s.2.2.1 * 2 ^ (count - s.1.length).toNat ≤ B
  sp0 : 0 ≤ s.2.2.2
  sp1 : s.2.2.2 ≤ at_ + 100 + 64 * s.1.length
theorem rows_step {ns : List Int} {at_ top count B : Int} {names : List Str} (a0 : 0 ≤ at_) (a1 : at_ ≤ 1000000) (c1 : count ≤ 10) (hn : (names.length : Int) = count) (nd : names.Nodup) (nw : ∀ w ∈ names, isW w = true) (hB : B ≤ 4096) (tB : top ≤ B) {a : Int} {l : List Int} {s : List NRow × List (Str × Int) × Int × Int} (h : RI names at_ count B (a :: l) s) : ∃ s', T_law_rows_b2 ns at_ top count names s a = .ok s' ∧ RI names at_ count B l s' := by
  obtain ⟨rows, szz, tot, spot⟩ := s
  obtain ⟨h1, h2, h3, h4, h5, h6, h7, h8, h9, h10⟩ := h
  simp only at h1 h2 h3 h4 h5 h6 h7 h8 h9 h10
  subst h5
  have lt : (rows.length : Int) < count := by
    rcases Int.lt_or_le (rows.length : Int) count with z | z
    · exact z
    · rw [rng_nil z] at h1; cases h1
  rw [rng_cons lt] at h1
  injection h1 with ha hl
  subst ha hl
  generalize hk : rows.length = k at *
  have kn : k < names.length := by omega
  have hnk : names[k]? = some names[k] := List.getElem?_eq_getElem kn
  have new : names[k] ∉ rows.map (·.1) := by
    rw [h4]
    intro hm
    obtain ⟨i, hi, e⟩ := List.getElem_of_mem hm
    rw [List.length_take] at hi
    rw [List.getElem_take] at e
    have := (List.getElem_inj nd).mp e
    omega
  have gd := h3.good
  have ln : rows.length < sizeLine := by rw [hk, sizeLine_eq]; omega
  obtain ⟨_, nsz, w1, w2⟩ := fold_made rows [] 1 [] gd netSz_nil (by simpa using ln) (by decide) (by decide)
  rw [List.nil_append] at nsz
  rw [← h6] at w1 w2
  have pw0 : (0 : Int) < 2 ^ (count - (k : Int) - 1).toNat := Int.pow_pos (by decide)
  have pw1 := two_pow_le (n := (count - (k : Int) - 1).toNat) (m := 10) (by omega)
  have dpos : 0 < tot * 2 ^ (count - (k : Int) - 1).toNat := Int.mul_pos (by omega) pw0
  have dlt : tot * 2 ^ (count - (k : Int) - 1).toNat ≤ 4096 * 1024 := Int.mul_le_mul w2 pw1 (by omega) (by omega)
  obtain ⟨y, ey, sy⟩ := T_law_shape_ok ns at_ (k : Int) (top / (tot * 2 ^ (count - (k : Int) - 1).toNat)) names (by omega) (by omega) (by omega) nd a0 a1
  obtain ⟨vs, es, many⟩ := y
  obtain ⟨vl, vr, vn, vw, ⟨el, en, em⟩, mn⟩ := sy
  simp only at vl vr vn vw el en em mn
  rw [Int.toNat_natCast, ← h4] at em
  have turns := rows_turns (more := [(names[k], vs, es, [])]) nsz es 1 em
  have tlo := (fold_choices (w := 1) nsz es 1 (fun e he => by rw [List.map_map]; exact em e he) (by decide)).2
  have thi := choices_le (net := rows.map dueE) es 1 (fun e he => (valsOf_len nsz (nm := e) (by rw [List.map_map]; exact em e he)).2) (by decide)
  have tp : (4 : Int) ^ es.length ≤ 64 := by
    have : es.length = 0 ∨ es.length = 1 ∨ es.length = 2 ∨ es.length = 3 := by omega
    rcases this with h | h | h | h <;> rw [h] <;> decide
  rw [Int.one_mul] at thi
  generalize ht : es.foldl (fun c e => c * ((valsOf (rows.map dueE) e).length : Int)) 1 = tu at *
  obtain ⟨tb, etb, ltb, qtb⟩ := cmpR_all (g := fun (a6 : Int) => (((T_law_cell ns (spot + a6)).bind fun x => ((R.ok (vs.length : Int)).bind fun x => ((R.ok many).bind fun x => (R.ok ()).bind fun xs => R.ok (x, xs)).bind fun xs => R.ok (x, xs)).bind fun xs => R.ok (x, xs)).bind fun t => T_law_cuts t.1 t.2.1 t.2.2.1)) (Q := fun _ (row : List Int) => (row.length : Int) = (vs.length : Int) ∧ (∀ x ∈ row, 0 ≤ x) ∧ row.sum = many) (l := rng 0 tu) fun a ha => by
    have := rng_mem ha
    simp only [T_law_cell_eq ns (show 0 ≤ spot + a by omega) (show spot + a < 4294967296 by omega), R.bind_ok]
    exact T_law_cuts_ok _ _ _ (by omega) (by omega) (by omega)
  simp only [R.bind_ok] at etb
  rw [rng_len] at ltb
  have qrow : ∀ row ∈ tb, (row.length : Int) = (vs.length : Int) ∧ (∀ x ∈ row, 0 ≤ x) ∧ row.sum = many := fun row hr => by
    obtain ⟨i, hi⟩ := List.getElem?_of_mem hr
    have hil := (List.getElem?_eq_some_iff.mp hi).1
    exact qtb i _ row (List.getElem?_eq_getElem (by rw [rng_len]; omega)) hi
  have hd : (tb.headD []).sum = many := by
    cases tb with
    | nil => simp at ltb; omega
    | cons r0 _ => exact (qrow r0 (by simp)).2.2
  have rs : RowSz (names[k], vs, es, tb) := ⟨isW_sz (nw _ (List.getElem_mem _)), fun v hv => isW_sz (vw v hv), by show tb.length ≤ _; rw [ltb, sizeLine_eq]; omega⟩
  have B2 : tot * (vs.length : Int) * 2 ^ (count - ((k + 1 : Nat) : Int)).toNat ≤ B := by
    rw [show (count - ((k + 1 : Nat) : Int)).toNat = (count - (k : Int) - 1).toNat by omega]
    rcases vr with v2 | v2
    · rw [show (count - (k : Int)).toNat = (count - (k : Int) - 1).toNat + 1 by omega, Int.pow_succ] at h8
      rw [v2, Int.mul_assoc, Int.mul_comm ((2 : Nat) : Int)]
      exact h8
    · have : (vs.length : Int) * (tot * 2 ^ (count - (k : Int) - 1).toNat) ≤ top := by
        have e1 := Int.mul_le_mul_of_nonneg_right v2 (Int.le_of_lt dpos)
        have e2 := Int.ediv_mul_le top (show tot * 2 ^ (count - (k : Int) - 1).toNat ≠ 0 by omega)
        omega
      rw [Int.mul_comm tot, Int.mul_assoc]
      omega
  have B3 : tot * (vs.length : Int) ≤ 4096 := by
    have p : (1 : Int) ≤ 2 ^ (count - ((k + 1 : Nat) : Int)).toNat := by
      have : (0 : Int) < 2 ^ (count - ((k + 1 : Nat) : Int)).toNat := Int.pow_pos (by decide)
      omega
    have := Int.mul_le_mul_of_nonneg_left p (show 0 ≤ tot * (vs.length : Int) from Int.mul_nonneg (by omega) (by omega))
    omega
  have gr : GoodR (rows.map dueE) (waysF 1 rows) (names[k], vs, es, tb) := by
    refine ⟨nw _ (List.getElem_mem _), ?_, vl, List.all_eq_true.mpr vw, vn, el, ?_, en, ?_, ?_⟩
    · rw [List.map_map]; exact new
    · rw [List.all_eq_true]
      intro e he
      rw [decide_eq_true_iff, List.map_map]
      exact em e he
    · rw [← h6]; exact B3
    · unfold tabOk
      simp only
      rw [hd, show choicesF (rows.map dueE) es = tu from ht]
      simp only [Bool.and_eq_true, decide_eq_true_iff, List.all_eq_true]
      refine ⟨⟨⟨by omega, fun row hr => ?_⟩, by omega⟩, by omega⟩
      obtain ⟨q1, q2, q3⟩ := qrow row hr
      unfold rowOk
      simp only [Bool.and_eq_true, decide_eq_true_iff, List.all_eq_true]
      exact ⟨⟨q1, q2⟩, q3⟩
  have pz := put_szs (rows := rows) (r := (names[k], vs, es, [])) new ln
  refine ⟨(rows ++ [(names[k], vs, es, tb)], szs (rows ++ [(names[k], vs, es, tb)]), tot * (vs.length : Int), spot + tu), ?_, ?_⟩
  · unfold T_law_rows_b2
    simp only [R.bind_ok, shl1_ok (show 0 ≤ count - (k : Int) - 1 by omega) (show count - (k : Int) - 1 ≤ 60 by omega), mulR_ok (show IntMulOk tot (2 ^ (count - (k : Int) - 1).toNat) from mulOk_left (by omega) (by omega)), divR_ok (show CDivP top (tot * 2 ^ (count - (k : Int) - 1).toNat) from divP_small dpos (by omega)), ey, atR_nat hnk]
    simp only at pz
    simp only [pz, R.bind_ok, mulR_ok (show IntMulOk tot (vs.length : Int) from mulOk_left (by omega) (by omega)), turns, rngR1_ok (show -1000000000 ≤ tu by omega) (show tu ≤ 1000000000 by omega), etb, fitN_ok (show tb.length ≤ sizeLine from rs.tb)]
    rw [appR_ok ln]
    simp only [R.bind_ok]
    have : szs (rows ++ [(names[k], vs, es, [])]) = szs (rows ++ [(names[k], vs, es, tb)]) := by unfold szs; simp
    rw [this]
  · have le : (rows ++ [((names[k], vs, es, tb) : NRow)]).length = k + 1 := by rw [List.length_append, hk]; rfl
    refine ⟨?_, ?_, h3.snoc gr rs, ?_, rfl, ?_, ?_, ?_, ?_, ?_⟩
    · simp only [le]; rfl
    · simp only [le]; omega
    · simp only [le]
      rw [List.map_append, h4, List.take_add_one, hnk]
      rfl
    · rw [waysF_snoc, ← h6]
    · have := Int.mul_le_mul h7 (show (1 : Int) ≤ (vs.length : Int) by omega) (by decide) (by omega)
      simp only
      omega
    · simp only [le]; exact B2
    · simp only; omega
    · simp only [le]; omega
theorem T_law_rows_ok (ns : List Int) (at_ most top : Int) (a0 : 0 ≤ at_) (a1 : at_ ≤ 1000000) (m0 : 1 ≤ most) (m1 : most ≤ 8) (t1 : top ≤ 4096) : ∃ rows, T_law_rows ns at_ most top = .ok rows ∧ 1 ≤ rows.length ∧ (rows.length : Int) ≤ most ∧ GoodL rows := by
  unfold T_law_rows
  rw [T_law_cell_eq ns (by omega) (by omega), T_law_cell_eq ns (show 0 ≤ at_ + 1 by omega) (by omega)]
  simp only [R.bind_ok, modR_ok (show 0 < most by omega)]
  have q0 := Int.emod_nonneg (cell ns at_.toNat) (show most ≠ 0 by omega)
  have q1 := Int.emod_lt_of_pos (cell ns at_.toNat) (show 0 < most by omega)
  generalize hc : 1 + cell ns at_.toNat % most = count at *
  obtain ⟨names, n1, n2, n3, n4⟩ := T_law_words_ok (cell ns (at_ + 1).toNat) count (by omega) (by omega)
  simp only [n1, R.bind_ok, rngR1_ok (show -1000000000 ≤ count by omega) (show count ≤ 1000000000 by omega)]
  have pw := two_pow_le (n := count.toNat) (m := 8) (by omega)
  obtain ⟨s, e, i⟩ := foldR_inv (f := T_law_rows_b2 ns at_ top count names) (RI names at_ count (max top (2 ^ count.toNat))) (rng 0 count) ([], [], 1, at_ + 2 + 2 * count) ⟨rfl, by show (0 : Int) ≤ count; omega, fun k r h => by simp at h, by simp, rfl, rfl, Int.le_refl _, by show 1 * 2 ^ (count - 0).toNat ≤ _; rw [Int.one_mul, Int.sub_zero]; omega, by show 0 ≤ at_ + 2 + 2 * count; omega, by show at_ + 2 + 2 * count ≤ at_ + 100 + 64 * 0; omega⟩ fun a l s h => rows_step a0 a1 (by omega) (by omega) n3 n4 (by omega) (by omega) h
  rw [e, R.bind_ok]
  have r := i.rem
  have le := i.le
  have : ¬ (s.1.length : Int) < count := fun z => by rw [rng_cons z] at r; cases r
  exact ⟨_, rfl, by omega, by omega, i.good⟩
theorem GoodL.word {rows : List NRow} (h : GoodL rows) : ∀ x ∈ rows.map (·.1), isW x = true := fun x hx => by
  obtain ⟨r, hr, rfl⟩ := List.mem_map.mp hx
  obtain ⟨k, hk⟩ := List.getElem?_of_mem hr
  exact (h k r hk).1.nm
theorem GoodL.eld {rows : List NRow} (h : GoodL rows) {k : Nat} {r : NRow} (hk : rows[k]? = some r) : ∀ e ∈ r.2.2.1, e ∈ (rows.take k).map (·.1) := fun e he => by
  have := List.all_eq_true.mp (h k r hk).1.em e he
  rw [decide_eq_true_iff, List.map_map] at this
  exact this
theorem GoodL.pl {rows : List NRow} (h : GoodL rows) : ∀ r ∈ rows, RowPl r := fun r hr => by
  obtain ⟨k, hk⟩ := List.getElem?_of_mem hr
  have g := (h k r hk).1
  refine ⟨isW_ok g.nm _, fun v hv => isW_ok (List.all_eq_true.mp g.vw v hv) _, fun v hv => isW_ok (h.word v ?_) _⟩
  have := h.eld hk v hv
  obtain ⟨x, hx, e⟩ := List.mem_map.mp this
  exact List.mem_map.mpr ⟨x, List.mem_of_mem_take hx, e⟩
theorem GoodL.made {rows : List NRow} (h : GoodL rows) (h1 : 1 ≤ rows.length) (hl : rows.length ≤ 10) : T_made rows = .ok (rows.map dueE) := T_made_ok h1 hl h.good
theorem GoodL.copied {rows : List NRow} (h : GoodL rows) (hl : rows.length ≤ 10) : T_law_copied rows = .ok rows := T_law_copied_eq (by rw [sizeLine_eq]; omega) fun r hr => (good_tab _ _ _ h.good r hr).1
theorem GoodL.due {rows : List NRow} (h : GoodL rows) (hl : rows.length ≤ 10) : T_law_due rows = .ok (rows.map dueE) := T_law_due_eq (by rw [sizeLine_eq]; omega) (good_tab _ _ _ h.good)
end OD
set_option Elab.async false
set_option linter.all false
set_option maxRecDepth 100000
set_option maxHeartbeats 4000000
namespace L2.VL
open PySem PySem.Spec PyProof.Rows
def flatR (d : D) : R D := if flatD d then .ok d else .bad
def dget2D : D → D → D → R D
  | .dic kds, k, z => (ofO (keyD k)).bind fun k => flatR ((valD kds k).getD z)
  | _, _, _ => .bad
@[simp] theorem dget2D_dic (kds : List (Key × D)) (k z : D) : dget2D (.dic kds) k z = (ofO (keyD k)).bind fun k => flatR ((valD kds k).getD z) := rfl
end L2.VL
set_option Elab.async false
set_option linter.all false
set_option maxRecDepth 100000
set_option maxHeartbeats 4000000
namespace L2.VL
open PySem PySem.Spec PyProof.Rows
def asDc (m : Tg) : D → R D
  | .dic kds => if cnOk m (kds.map (·.2)) then .ok (.dic kds) else .bad
  | _ => .bad
@[simp] theorem asDc_dic (m : Tg) (kds : List (Key × D)) : asDc m (.dic kds) = if cnOk m (kds.map (·.2)) then .ok (.dic kds) else .bad := rfl
end L2.VL
set_option Elab.async false
set_option linter.all false
set_option maxRecDepth 100000
set_option maxHeartbeats 4000000
namespace L2.VL
open PySem PySem.Spec PyProof.Rows
end L2.VL
set_option Elab.async false
set_option linter.all false
set_option maxRecDepth 100000
set_option maxHeartbeats 4000000
namespace L2.VL
open PySem PySem.Spec PyProof.Rows
open PySem.Sem (wp)
end L2.VL
set_option Elab.async false
set_option linter.all false
set_option maxRecDepth 100000
set_option maxHeartbeats 4000000
namespace L2.VL
open PySem PySem.Spec PyProof.Rows
def keysD : List D → Option (List Key)
  | [] => some []
  | d :: ds => (keyD d).bind fun k => (keysD ds).bind fun ks => some (k :: ks)
def mergeD {κ α : Type} [DecidableEq κ] (acc more : List (κ × α)) : List (κ × α) := more.foldl (fun acc kv => putD acc kv.1 kv.2) acc
def dzipD (mb : Tg) : D → D → R D
  | .tup ks, .tup ds => if cnOk mb ds then (ofO (keysD ks)).bind fun ks => .ok (.dic (mergeD [] (ks.zip ds))) else .bad
  | _, _ => .bad
@[simp] theorem dzipD_tup (mb : Tg) (ks ds : List D) : dzipD mb (.tup ks) (.tup ds) = if cnOk mb ds then (ofO (keysD ks)).bind fun ks => .ok (.dic (mergeD [] (ks.zip ds))) else .bad := rfl
end L2.VL
set_option Elab.async false
set_option linter.all false
set_option maxRecDepth 100000
set_option maxHeartbeats 4000000
namespace L2.VL
open PySem PySem.Spec PyProof.Rows
end L2.VL
set_option Elab.async false
set_option linter.all false
set_option maxRecDepth 100000
set_option maxHeartbeats 4000000
namespace L2.VL
open PySem PySem.Spec PyProof.Rows
end L2.VL
set_option Elab.async false
set_option linter.all false
set_option maxRecDepth 100000
set_option maxHeartbeats 4000000
namespace L2.VL
open PySem PySem.Spec PyProof.Rows
end L2.VL
set_option Elab.async false
set_option linter.all false
set_option maxRecDepth 100000
set_option maxHeartbeats 4000000
namespace L2.VL
open PySem PySem.Spec PyProof.Rows
end L2.VL
set_option Elab.async false
set_option linter.all false
set_option maxRecDepth 100000
set_option maxHeartbeats 4000000
namespace L2.VL
open PySem PySem.Spec PyProof.Rows
end L2.VL
set_option Elab.async false
set_option linter.all false
set_option maxRecDepth 100000
set_option maxHeartbeats 4000000
namespace L2.VL
open PySem PySem.Spec PyProof.Rows
open PySem.Sem (wp)
end L2.VL
set_option Elab.async false
set_option linter.all false
set_option maxRecDepth 100000
set_option maxHeartbeats 4000000
namespace L2.VL
open PySem PySem.Spec PyProof.Rows
open PySem.Sem (wp)
end L2.VL
set_option Elab.async false
set_option linter.all false
set_option maxRecDepth 100000
set_option maxHeartbeats 4000000
namespace L2.VL
open PySem PySem.Spec PyProof.Rows
open PySem.Sem (wp)
open AutoSeq1 (wpAny_loadPart')
end L2.VL
set_option Elab.async false
set_option linter.all false
set_option maxRecDepth 100000
set_option maxHeartbeats 4000000
namespace L2.VL
open PySem PySem.Spec PyProof.Rows
end L2.VL
set_option Elab.async false
set_option linter.all false
set_option maxRecDepth 100000
set_option maxHeartbeats 4000000
namespace L2.VL
open PySem PySem.Spec PyProof.Rows
end L2.VL
set_option Elab.async false
set_option linter.all false
set_option maxRecDepth 100000
set_option maxHeartbeats 4000000
namespace L2.VL
open PySem PySem.Spec PyProof.Rows
abbrev e1 {α : Type} (f : α → D) (x : α) : D := .tup [f x]
end L2.VL
set_option Elab.async false
set_option linter.all false
set_option maxRecDepth 100000
set_option maxHeartbeats 4000000
namespace L2.VL
open PySem PySem.Spec PyProof.Rows
end L2.VL
set_option Elab.async false
set_option linter.all false
set_option maxRecDepth 100000
set_option maxHeartbeats 4000000
namespace L2.VL
open PySem PySem.Spec PyProof.Rows
open AutoSeq1 (wpAny_loadPart')
open MeetsSeq MeetsSeq2 MeetsSeq3 SeqRoads2 PySem.SeqAt
end L2.VL
set_option Elab.async false
set_option linter.all false
set_option maxRecDepth 100000
set_option maxHeartbeats 4000000
namespace L2.VL
open PySem PySem.Spec PyProof.Rows
section
variable {K : KFr} {B H B' H' : Hp} {v : V} {d d' : D} {a p q : Addr} {o : HO}
theorem Kids.length : ∀ {vs : List V} {ds : List D}, Kids K B H vs ds → vs.length = ds.length
  | _, _, .nil => rfl
  | _, _, .cons _ r => congrArg (· + 1) r.length
theorem Kids.append : ∀ {vs us : List V} {ds es : List D}, Kids K B H vs ds → Kids K B H us es → Kids K B H (vs ++ us) (ds ++ es)
  | _, _, _, _, .nil, s => s
  | _, _, _, _, .cons q r, s => .cons q (Kids.append r s)
end
end L2.VL
set_option Elab.async false
set_option linter.all false
set_option maxRecDepth 100000
set_option maxHeartbeats 4000000
namespace L2.VL
open PySem PySem.Spec PyProof.Rows
end L2.VL
set_option Elab.async false
set_option linter.all false
set_option maxRecDepth 100000
set_option maxHeartbeats 4000000
namespace L2.VL
open PySem PySem.Spec PyProof.Rows
section
variable {K : KFr} {B H : Hp} {v x : V} {d : D} {p q : Addr}
theorem Apart.push {vs : List V} (h : Apart B vs) (hx : ∀ q, x = .ref q → B q = none → V.ref q ∉ vs) : Apart B (vs ++ [x]) := fun i j q h1 h2 hq => by
  have len : ∀ {k : Nat}, (vs ++ [x])[k]? = some (V.ref q) → (vs[k]? = some (.ref q) ∧ k < vs.length) ∨ (k = vs.length ∧ x = .ref q) := by
    intro k hk
    by_cases hl : k < vs.length
    · rw [List.getElem?_append_left hl] at hk
      exact .inl ⟨hk, hl⟩
    · rw [List.getElem?_append_right (by omega)] at hk
      by_cases e : k - vs.length = 0
      · rw [e] at hk
        exact .inr ⟨by omega, Option.some.inj hk⟩
      · rw [List.getElem?_eq_none (by simp; omega)] at hk
        cases hk
  rcases len h1 with ⟨a1, _⟩ | ⟨a1, a2⟩
  · rcases len h2 with ⟨b1, _⟩ | ⟨b1, b2⟩
    · exact h i j q a1 b1 hq
    · exact absurd (List.mem_of_getElem? a1) (hx q b2 hq)
  · rcases len h2 with ⟨b1, _⟩ | ⟨b1, b2⟩
    · exact absurd (List.mem_of_getElem? b1) (hx q a2 hq)
    · omega
end
def KD (K : KFr) (mg : Str → Option Value) (W : WX) (sg : St) (B H : Hp) (Q : VK) : R D → Prop
  | .ok d => ∀ B' H' v, Ext B H B' H' → Deep K B' H' v d → (∀ a, Ft B' H' v a → H a = none) → Q v H'
  | .ex c => ∀ B' H' a, Ext B H B' H' → mg c = some (.ref a) → W (.ref a) none sg H'
  | .bad => False
def vD (K : KFr) (mg : Str → Option Value) (G : List Md) (W : WX) (f : List D → R D) : TE := fun sg H Q =>
  ∃ B0 H0 B e, Sta K G B0 H0 sg e B H ∧ KD K mg W sg B H Q (f e)
end L2.VL
set_option Elab.async false
set_option linter.all false
set_option maxRecDepth 100000
set_option maxHeartbeats 4000000
namespace L2.VL
open PySem PySem.Spec PyProof.Rows
end L2.VL
set_option Elab.async false
set_option linter.all false
set_option maxRecDepth 100000
set_option maxHeartbeats 4000000
namespace L2.VL
open PySem PySem.Spec PyProof.Rows
end L2.VL
set_option Elab.async false
set_option linter.all false
set_option maxRecDepth 100000
set_option maxHeartbeats 4000000
namespace L2.VL
open PySem PySem.Spec PyProof.Rows
def optR {α β : Type} (v : Option α) (n : β) (f : α → β) : β := match v with
  | none => n
  | some y => f y
end L2.VL
set_option Elab.async false
set_option linter.all false
set_option maxRecDepth 100000
set_option maxHeartbeats 4000000
namespace L2.VL
open PySem PySem.Spec PyProof.Rows
end L2.VL
set_option Elab.async false
set_option linter.all false
set_option maxRecDepth 100000
set_option maxHeartbeats 4000000
namespace L2.VL
open PySem PySem.Spec PyProof.Rows
end L2.VL
set_option Elab.async false
set_option linter.all false
set_option maxRecDepth 100000
set_option maxHeartbeats 4000000
namespace L2.VL
open PySem PySem.Spec PyProof.Rows
end L2.VL
set_option Elab.async false
set_option linter.all false
set_option maxRecDepth 100000
set_option maxHeartbeats 4000000
namespace L2.VL
open PySem PySem.Spec PyProof.Rows
end L2.VL
set_option Elab.async false
set_option linter.all false
set_option maxRecDepth 100000
set_option maxHeartbeats 4000000
namespace L2.VL
open PySem PySem.Spec PyProof.Rows
end L2.VL
set_option Elab.async false
set_option linter.all false
set_option maxRecDepth 100000
set_option maxHeartbeats 4000000
namespace L2.VL
open PySem PySem.Spec PyProof.Rows
end L2.VL
set_option Elab.async false
set_option linter.all false
set_option maxRecDepth 100000
set_option maxHeartbeats 4000000
namespace L2.VL
open PySem PySem.Spec PyProof.Rows
end L2.VL
set_option Elab.async false
set_option linter.all false
set_option maxRecDepth 100000
set_option maxHeartbeats 4000000
namespace L2.VL
open PySem PySem.Spec PyProof.Rows
end L2.VL
set_option Elab.async false
set_option linter.all false
set_option maxRecDepth 100000
set_option maxHeartbeats 4000000
namespace L2.VL
open PySem PySem.Spec PyProof.Rows
end L2.VL
set_option Elab.async false
set_option linter.all false
set_option maxRecDepth 100000
set_option maxHeartbeats 4000000
namespace L2.VL
open PySem PySem.Spec PyProof.Rows
end L2.VL
set_option Elab.async false
set_option linter.all false
set_option maxRecDepth 100000
set_option maxHeartbeats 4000000
namespace L2.VL
open PySem PySem.Spec PyProof.Rows L2.TD
def ldOf : D → Option LD
  | .non => some .non
  | .bl b => some (.bl b)
  | .int i => some (.int i)
  | .str x => some (.str x)
  | _ => none
def ldsOf : List D → Option (List LD)
  | [] => some []
  | d :: ds => (ldOf d).bind fun a => (ldsOf ds).map (a :: ·)
def keyT : D → Option (List LD)
  | .tup ds => ldsOf ds
  | _ => none
def valT : List (List LD × D) → List LD → Option D
  | [], _ => none
  | p :: r, k => if p.1.map LD.lf = k.map LD.lf then some p.2 else valT r k
section
variable {X : Cx} {G : List Md} {W : WX} {pos : Pos} {o a b : Expr} {fo fa fb : List D → R D} {mo ma mb : Tg} {apos cpos : Pos}
def tgetD : D → D → R D
  | .tdc kds, k => (ofO (keyT k)).bind fun k => ofO (valT kds k)
  | _, _ => .bad
@[simp] theorem tgetD_tdc (kds : List (List LD × D)) (k : D) : tgetD (.tdc kds) k = (ofO (keyT k)).bind fun k => ofO (valT kds k) := rfl
def tinD (n : Bool) : D → D → R D
  | k, .tdc kds => (ofO (keyT k)).bind fun k => .ok (.bl (n != (valT kds k).isSome))
  | _, _ => .bad
@[simp] theorem tinD_tdc (n : Bool) (k : D) (kds : List (List LD × D)) : tinD n k (.tdc kds) = (ofO (keyT k)).bind fun k => .ok (.bl (n != (valT kds k).isSome)) := by cases k <;> rfl
end
def tget2D : D → D → D → R D
  | .tdc kds, k, z => (ofO (keyT k)).bind fun k => flatR ((valT kds k).getD z)
  | _, _, _ => .bad
@[simp] theorem tget2D_tdc (kds : List (List LD × D)) (k z : D) : tget2D (.tdc kds) k z = (ofO (keyT k)).bind fun k => flatR ((valT kds k).getD z) := rfl
end L2.VL
set_option Elab.async false
set_option linter.all false
set_option maxRecDepth 100000
set_option maxHeartbeats 4000000
namespace L2.VL
open PySem PySem.Spec PyProof.Rows L2.TD
end L2.VL
set_option Elab.async false
set_option linter.all false
set_option maxRecDepth 100000
set_option maxHeartbeats 4000000
namespace L2.VL
open PySem PySem.Spec PyProof.Rows
def slTD (lo hi : Option Int) : D → R D
  | .tup ds => .ok (.tup (cutL ds lo hi))
  | _ => .bad
@[simp] theorem slTD_tup (lo hi : Option Int) (ds : List D) : slTD lo hi (.tup ds) = .ok (.tup (cutL ds lo hi)) := rfl
end L2.VL
set_option Elab.async false
set_option linter.all false
set_option maxRecDepth 100000
set_option maxHeartbeats 4000000
namespace L2.VL
open PySem PySem.Spec PyProof.Rows
end L2.VL
set_option Elab.async false
set_option linter.all false
set_option maxRecDepth 100000
set_option maxHeartbeats 4000000
namespace L2.VL
open PySem PySem.Spec PyProof.Rows
end L2.VL
namespace L2.VL
open PySem PySem.Spec PyProof.Rows
abbrev e6 {α β γ δ ε ζ : Type} (f : α → D) (g : β → D) (h : γ → D) (k : δ → D) (l : ε → D) (m : ζ → D) (p : α × β × γ × δ × ε × ζ) : D := .tup [f p.1, g p.2.1, h p.2.2.1, k p.2.2.2.1, l p.2.2.2.2.1, m p.2.2.2.2.2]
end L2.VL
set_option Elab.async false
set_option linter.all false
set_option maxRecDepth 100000
set_option maxHeartbeats 4000000
namespace L2.VL
open PySem PySem.Spec PyProof.Rows
end L2.VL
set_option Elab.async false
set_option linter.all false
set_option maxRecDepth 100000
set_option maxHeartbeats 4000000
namespace L2.VL
open PySem PySem.Spec PyProof.Rows
end L2.VL
set_option Elab.async false
set_option linter.all false
set_option maxRecDepth 100000
set_option maxHeartbeats 4000000
namespace L2.VL
open PySem PySem.Spec PyProof.Rows
end L2.VL
set_option Elab.async false
set_option linter.all false
set_option maxRecDepth 100000
set_option maxHeartbeats 4000000
namespace L2.VL
open PySem PySem.Spec PyProof.Rows
end L2.VL
set_option Elab.async false
set_option linter.all false
set_option maxRecDepth 100000
set_option maxHeartbeats 4000000
namespace L2.VL
open PySem PySem.Spec PyProof.Rows
end L2.VL
set_option Elab.async false
set_option linter.all false
set_option maxRecDepth 100000
set_option maxHeartbeats 4000000
namespace L2.VL
open PySem PySem.Spec PyProof.Rows
end L2.VL
set_option Elab.async false
set_option linter.all false
set_option maxRecDepth 100000
set_option maxHeartbeats 4000000
namespace L2.VL
open PySem PySem.Spec PyProof.Rows
theorem kids_some {K : KFr} {B H : Hp} {p : Addr} : ∀ {vs : List V} {ds : List D}, Kids K B H vs ds → V.ref p ∈ vs → B p ≠ none ∨ H p ≠ none
  | _, _, .cons h r, m => by
    rcases List.mem_cons.mp m with e | m
    · subst e
      rcases h with ⟨_, h⟩ | ⟨q, e, _, h⟩
      · exact .inl (rep_some (c := false) h)
      · cases e
        exact .inr h.isSome
    · exact kids_some r m
section
variable {K : KFr} {mg : Str → Option Value} {G G1 : List Md} {W : WX} {m : Pm} {it : List D → R (List D)} {t : D → List D → Option (List D)} {c : List D → R Bool} {g : List D → R D} {is vs : List Nat}
theorem lc_ofK (hsub : ∀ i ∈ is, i ∈ vs) (sg : St) (H : Hp) (Q : VK) (h : vD K mg G W (eComp it t c g) sg H Q) :
    tLc (vI K mg G W m it) (vG K m is (wipeG G vs) G1 t) (vT K mg G1 W0 c) (vE K mg G1 W0 .fr g) vs sg H Q := by
  obtain ⟨B0, H0, B, e, S, k⟩ := h
  refine ⟨B0, H0, B, e, S, ?_⟩
  unfold eComp at k
  cases ei : it e with
  | bad => rw [ei] at k; exact k.elim
  | ex n => rw [ei] at k; exact k
  | ok ds =>
    rw [ei, R.bind_ok] at k
    intro B1 H1 J x1 w L hL
    obtain ⟨Gd, Y, wk, hgd, hy⟩ := w.ex
    cases ec : compL t c g e ds with
    | bad => rw [ec] at k; exact k.elim
    | ex n => exact (compL_ex ec).elim
    | ok ys =>
      rw [ec, R.bind_ok, fitL_eq] at k
      by_cases hz : ys.length ≤ sizeLine
      · rw [if_pos hz] at k
        have S1 := S.later x1
        have S1w : Sta K (wipeG G vs) B0 H0 (L2.wipe sg vs) e B1 H1 := Sta.wipe S1
        have hLb : B1 L = none := x1.s.free hL
        refine lc_it wk (fun i H' => ∃ B' acc done rest, Ext B1 H1 B' H' ∧ B' L = none ∧ H' L = some (.lst acc) ∧ Kids K B' H' acc done ∧ Apart B' acc ∧ (∀ q, V.ref q ∈ acc → B' q = none → H1 q = none ∧ q ≠ L) ∧ compL t c g e (ds.drop i) = .ok rest ∧ done ++ rest = ys)
          ⟨B1, [], [], ys, .newH x1.s hL, hLb, upd_same, .nil, (fun _ _ _ h _ _ => by simp at h), (fun _ h _ => by simp at h), by rw [List.drop_zero]; exact ec, rfl⟩ (fun i H' _ hh => ?_) (fun i x H' H'' hi hh y => ?_) (fun H' hh => ?_)
        · obtain ⟨B', acc, done, rest, xx, _⟩ := hh
          exact hgd B' H' xx.b ((S1.ext.h).trans xx.h) xx.s
        · obtain ⟨B', acc, done, rest, xx, hbL, hhL, hr, hap, hfr, er, ed⟩ := hh
          have hd : ds[i]? = some ds[i] := List.getElem?_eq_getElem hi
          obtain ⟨rfl, rp⟩ := hy i H' x H'' ds[i] B' y hd xx.b (S1.ext.h.trans xx.h) xx.s
          rw [List.drop_eq_getElem_cons hi] at er
          unfold compL at er
          have S2 := S1w.later xx
          refine ⟨B0, H0, B', e, ds[i], S2, rp, ?_⟩
          cases et : t ds[i] e with
          | none => rw [et] at er; cases er
          | some e1 =>
            rw [et, ofO_some, R.bind_ok] at er
            intro sg1 S3 ag
            refine ⟨wipe_ag ag hsub, B0, H0, B', e1, S3, ?_⟩
            cases eb : c e1 with
            | bad => rw [eb] at er; cases er
            | ex _ => rw [eb] at er; cases er
            | ok b =>
              rw [eb, noX_ok, R.bind_ok] at er
              intro B4 H4 x4
              cases b with
              | false =>
                rw [if_neg (by decide)]
                exact ⟨B4, acc, done, rest, xx.trans x4, (x4.n L (by rw [hhL]; exact fun z => by cases z)).trans hbL, x4.h _ _ hhL, hr.mono x4.b x4.h x4.n, hap.mono x4.b, (fun q hq hb => hfr q hq (x4.b.free hb)), er, ed⟩
              | true =>
                rw [if_pos rfl] at er ⊢
                refine ⟨B0, H0, B4, e1, S3.later x4, ?_⟩
                cases eg : g e1 with
                | bad => rw [eg] at er; cases er
                | ex _ => rw [eg] at er; cases er
                | ok yv =>
                  rw [eg, noX_ok, R.bind_ok] at er
                  cases ers : compL t c g e (ds.drop (i + 1)) with
                  | bad => rw [ers] at er; cases er
                  | ex _ => rw [ers] at er; cases er
                  | ok ys' =>
                    rw [ers] at er
                    cases er
                    intro B5 H5 v x5 rv
                    have h4L : H4 L = some (.lst acc) := x4.h _ _ hhL
                    have b4L : B4 L = none := (x4.n L (by rw [hhL]; exact fun z => by cases z)).trans hbL
                    have b5L : B5 L = none := (x5.n L (by rw [h4L]; exact fun z => by cases z)).trans b4L
                    obtain ⟨p, rfl, hp4, hp5, own5⟩ := rv
                    have x45 := x4.trans x5
                    have pL : p ≠ L := fun z => by rw [z, h4L] at hp4; cases hp4
                    have p1 : H1 p = none := (xx.trans x4).h.free hp4
                    have kids5 := hr.mono x45.b x45.h x45.n
                    have lno : V.ref L ∉ acc ++ [V.ref p] := fun z => by
                      rcases List.mem_append.mp z with z | z
                      · exact (hfr L z hbL).2 rfl
                      · exact pL (by have := List.mem_singleton.mp z; injection this with this; exact this.symm)
                    have pno : V.ref p ∉ acc := fun z => by
                      rcases kids_some (hr.mono x4.b x4.h x4.n) z with q | q
                      · exact q (x5.b.free hp5)
                      · exact q hp4
                    refine ⟨acc, x5.h _ _ h4L, ?_, B5, acc ++ [V.ref p], done ++ [yv], ys', (xx.trans x45).mutH hL b5L, b5L, upd_same, (kids5.append (.cons (.inr ⟨p, rfl, hp5, own5⟩) .nil)).upd lno, (hap.mono x45.b).push (fun q e hq => by cases e; exact pno), (fun q hq hb => ?_), rfl, ?_⟩
                    · rw [hr.length]
                      rw [← ed, List.length_append, List.length_cons] at hz
                      omega
                    · rcases List.mem_append.mp hq with z | z
                      · exact hfr q z (x45.b.free hb)
                      · have := List.mem_singleton.mp z
                        injection this with this
                        subst this
                        exact ⟨p1, pL⟩
                    · rw [List.append_assoc]
                      exact ed
        · obtain ⟨B', acc, done, rest, xx, hbL, hhL, hr, hap, hfr, er, ed⟩ := hh
          rw [List.drop_length] at er
          cases er
          rw [List.append_nil] at ed
          subst ed
          refine k B' H' _ (x1.trans xx) ⟨L, acc, rfl, hhL, hbL, hr, hap, fun z => (hfr L z hbL).2 rfl⟩ fun a f => ?_
          rcases f with ⟨p, e, _, f⟩ | ⟨p, vs', e, tp, _, _⟩
          · cases e
            rcases f with f | ⟨u, hu, hm, hb⟩
            · rw [f]; exact x1.h.free hL
            · rw [hhL] at hu
              cases hu
              exact x1.h.free (hfr a hm hb).1
          · cases e
            obtain ⟨o, q, _⟩ := tp
            rw [hbL] at q
            cases q
      · rw [if_neg hz] at k; exact k.elim
end
section
variable {X : Cx} {G G1 : List Md} {W : WX} {m : Pm} {it : List D → R (List D)} {t : D → List D → Option (List D)} {c : List D → R Bool} {g : List D → R D} {is : List Nat} {elt tg iter : Expr} {ifs : List Expr} {scope : Scope} {own : List (Str × Nat)} {pos : Pos}
theorem vd_comp (hc : X.calm = true) (hN : X.N.Nodup) (hi : PI X tg iter (vI (kf X) X.mg G W m it)) (ok : BlkOk X.N X.env.scope scope own)
    (hg : ∀ (s : Shared) (H : Hp) (C : Addr) (cl : List (Str × Addr)) (fp : List Addr), PG (X.blk s H scope (compEnvC scope cl C X.env) fp) tg (vG (kf X) m is (wipeG G (own.map (·.2))) G1 t))
    (ht : ∀ (s : Shared) (H : Hp) (C : Addr) (cl : List (Str × Addr)) (fp : List Addr), PTs (X.blk s H scope (compEnvC scope cl C X.env) fp) ifs (vT (kf X) X.mg G1 W0 c))
    (he : ∀ (s : Shared) (H : Hp) (C : Addr) (cl : List (Str × Addr)) (fp : List Addr), PE (X.blk s H scope (compEnvC scope cl C X.env) fp) elt (vE (kf X) X.mg G1 W0 .fr g))
    (hsub : ∀ i ∈ is, i ∈ own.map (·.2) := by decide) (hs : ∀ x, foldedSetIterable iter X.env x = pure x := by intro _; rfl) :
    PE X (.ListComp elt [⟨tg, iter, ifs, 0⟩] scope pos) (vD (kf X) X.mg G W (eComp it t c g)) := pe_weak (pe_lc hc hN hi ok hg ht he hs) (lc_ofK hsub)
end
end L2.VL
set_option Elab.async false
set_option linter.all false
set_option maxRecDepth 100000
set_option maxHeartbeats 4000000
namespace L2.VL
open PySem PySem.Spec PyProof.Rows
end L2.VL
set_option Elab.async false
set_option linter.all false
set_option maxRecDepth 100000
set_option maxHeartbeats 4000000
namespace L2.VL
open PySem PySem.Spec PyProof.Rows
end L2.VL
set_option Elab.async false
set_option linter.all false
set_option maxRecDepth 100000
set_option maxHeartbeats 4000000
namespace PySem.SeqAt
open AutoSeq1 (wpAny_loadPart')
open MeetsSeq MeetsSeq2 MeetsSeq3 SeqRoads2
end PySem.SeqAt
namespace L2.VL
open PySem PySem.Spec PyProof.Rows
end L2.VL
set_option Elab.async false
set_option linter.all false
set_option maxRecDepth 100000
set_option maxHeartbeats 4000000
namespace L2.VL
open PySem PySem.Spec PyProof.Rows
structure WR where
  q : Addr
  vn : V
  a : Addr
  b : Addr
  c : Addr
  as : List V
  bs : List V
  rs : List Addr
def WR.own (w : WR) : List Addr := w.a :: w.b :: w.c :: w.rs
structure WR.At (w : WR) (B H : Hp) : Prop where
  q : TupAt B w.q [w.vn, .ref w.a, .ref w.b, .ref w.c]
  a : H w.a = some (.lst w.as)
  b : H w.b = some (.lst w.bs)
  c : H w.c = some (.lst (w.rs.map V.ref))
def RK (K : KFr) (B H : Hp) : List Addr → List D → Prop
  | [], [] => True
  | r :: rs, .lst us :: ds => (∃ vs, H r = some (.lst vs) ∧ Reps false K B vs us) ∧ RK K B H rs ds
  | _, _ => False
structure WR.Is (w : WR) (K : KFr) (B H : Hp) (dn : D) (da db dc : List D) : Prop where
  n : Rep false K B w.vn dn
  a : Reps false K B w.as da
  b : Reps false K B w.bs db
  c : RK K B H w.rs dc
def RRs (K : KFr) (B H : Hp) : List WR → List D → Prop
  | [], [] => True
  | w :: ws, .tup [dn, .lst da, .lst db, .lst dc] :: ds => w.Is K B H dn da db dc ∧ RRs K B H ws ds
  | _, _ => False
def owns (ws : List WR) : List Addr := ws.flatMap WR.own
structure TR (K : KFr) (B H Hz : Hp) (p : Addr) (ws : List WR) (ds : List D) : Prop where
  hp : H p = some (.lst (ws.map fun w => .ref w.q))
  b : B p = none
  z : Hz p = none
  np : p ∉ owns ws
  nd : (owns ws).Nodup
  fr : ∀ x ∈ owns ws, Hz x = none ∧ B x = none
  at' : ∀ w ∈ ws, w.At B H
  rr : RRs K B H ws ds
section
variable {K : KFr} {B H B' H' Hz : Hp} {p : Addr}
theorem WR.At.mono {w : WR} (h : w.At B H) (sb : Same B B') (sh : Same H H') : w.At B' H' := ⟨h.q.mono sb, sh _ _ h.a, sh _ _ h.b, sh _ _ h.c⟩
theorem RK.mono (sb : Same B B') (sh : Same H H') : ∀ {rs : List Addr} {ds : List D}, RK K B H rs ds → RK K B' H' rs ds
  | [], [], _ => trivial
  | _ :: _, .lst _ :: _, ⟨⟨vs, h1, h2⟩, r⟩ => ⟨⟨vs, sh _ _ h1, h2.mono sb⟩, RK.mono sb sh r⟩
theorem RK.get : ∀ {rs : List Addr} {ds : List D}, RK K B H rs ds → ∀ r ∈ rs, ∃ vs, H r = some (.lst vs)
  | _ :: _, .lst _ :: _, ⟨⟨vs, h1, _⟩, q⟩, r, hr => by
    rcases List.mem_cons.mp hr with e | hr
    · subst e; exact ⟨vs, h1⟩
    · exact RK.get q r hr
theorem RK.len : ∀ {rs : List Addr} {ds : List D}, RK K B H rs ds → rs.length = ds.length
  | [], [], _ => rfl
  | _ :: _, .lst _ :: _, ⟨_, q⟩ => congrArg (· + 1) q.len
theorem WR.Is.mono {w : WR} {dn : D} {da db dc : List D} (h : w.Is K B H dn da db dc) (sb : Same B B') (sh : Same H H') : w.Is K B' H' dn da db dc := ⟨h.n.mono sb, h.a.mono sb, h.b.mono sb, h.c.mono sb sh⟩
theorem RRs.mono (sb : Same B B') (sh : Same H H') : ∀ {ws : List WR} {ds : List D}, RRs K B H ws ds → RRs K B' H' ws ds
  | [], [], _ => trivial
  | _ :: _, .tup [_, .lst _, .lst _, .lst _] :: _, ⟨h, r⟩ => ⟨h.mono sb sh, RRs.mono sb sh r⟩
theorem RRs.len : ∀ {ws : List WR} {ds : List D}, RRs K B H ws ds → ws.length = ds.length
  | [], [], _ => rfl
  | _ :: _, .tup [_, .lst _, .lst _, .lst _] :: _, ⟨_, r⟩ => congrArg (· + 1) r.len
theorem RRs.append {w : WR} {dn : D} {da db dc : List D} (hw : w.Is K B H dn da db dc) : ∀ {ws : List WR} {ds : List D}, RRs K B H ws ds → RRs K B H (ws ++ [w]) (ds ++ [.tup [dn, .lst da, .lst db, .lst dc]])
  | [], [], _ => ⟨hw, trivial⟩
  | _ :: _, .tup [_, .lst _, .lst _, .lst _] :: _, ⟨h, r⟩ => ⟨h, RRs.append hw r⟩
theorem WR.At.off {w : WR} (h : w.At B H) (he : ∀ x ∈ w.own, H' x = H x) : w.At B H' :=
  ⟨h.q, (he _ List.mem_cons_self).trans h.a, (he _ (List.mem_cons_of_mem _ List.mem_cons_self)).trans h.b, (he _ (List.mem_cons_of_mem _ (List.mem_cons_of_mem _ List.mem_cons_self))).trans h.c⟩
theorem RK.off : ∀ {rs : List Addr} {ds : List D}, RK K B H rs ds → (∀ x ∈ rs, H' x = H x) → RK K B H' rs ds
  | [], [], _, _ => trivial
  | _ :: _, .lst _ :: _, ⟨⟨vs, h1, h2⟩, r⟩, he => ⟨⟨vs, (he _ List.mem_cons_self).trans h1, h2⟩, RK.off r fun x hx => he x (List.mem_cons_of_mem _ hx)⟩
theorem RRs.off : ∀ {ws : List WR} {ds : List D}, RRs K B H ws ds → (∀ w ∈ ws, ∀ x ∈ w.own, H' x = H x) → RRs K B H' ws ds
  | [], [], _, _ => trivial
  | w :: _, .tup [_, .lst _, .lst _, .lst _] :: _, ⟨h, r⟩, he => ⟨⟨h.n, h.a, h.b, h.c.off fun x hx => he w List.mem_cons_self x (List.mem_cons_of_mem _ (List.mem_cons_of_mem _ (List.mem_cons_of_mem _ hx)))⟩, RRs.off r fun w hw => he w (List.mem_cons_of_mem _ hw)⟩
theorem RRs.rk : ∀ {ws : List WR} {ds : List D}, RRs K B H ws ds → ∀ w ∈ ws, ∀ r ∈ w.rs, ∃ vs, H r = some (.lst vs)
  | _ :: _, .tup [_, .lst _, .lst _, .lst _] :: _, ⟨h, r⟩, w, hw, x, hx => by
    rcases List.mem_cons.mp hw with e | hw
    · subst e; exact h.c.get x hx
    · exact RRs.rk r w hw x hx
theorem RK.reps (s : Same B H) : ∀ {rs : List Addr} {ds : List D}, RK K B H rs ds → Reps true K H (rs.map V.ref) ds
  | [], [], _ => .nil
  | _ :: _, .lst _ :: _, ⟨⟨vs, h1, h2⟩, r⟩ => .cons (.lst (.inl h1) (h2.mono s).wide) (RK.reps s r)
theorem RRs.reps (s : Same B H) : ∀ {ws : List WR} {ds : List D}, (∀ w ∈ ws, w.At B H) → RRs K B H ws ds → Reps true K H (ws.map fun w => .ref w.q) ds
  | [], [], _, _ => .nil
  | w :: ws, .tup [_, .lst _, .lst _, .lst _] :: _, ha, ⟨h, r⟩ => by
    have a := ha w List.mem_cons_self
    exact .cons (.tup (a.q.mono s) (.cons (Rep.mono s h.n).wide (.cons (.lst (.inl a.a) (h.a.mono s).wide) (.cons (.lst (.inl a.b) (h.b.mono s).wide) (.cons (.lst (.inl a.c) (h.c.reps s)) .nil))))) (RRs.reps s (fun w hw => ha w (List.mem_cons_of_mem _ hw)) r)
theorem TR.rep {ws : List WR} {ds : List D} (s : Same B H) (h : TR K B H Hz p ws ds) : Rep true K H (.ref p) (.lst ds) :=   .lst (.inl h.hp) (h.rr.reps s h.at')
theorem TR.mono {ws : List WR} {ds : List D} (h : TR K B H Hz p ws ds) (sb : Same B B') (sh : Same H H') (hn : ∀ p, H p ≠ none → B' p = B p) : TR K B' H' Hz p ws ds := by
  have live : ∀ x ∈ owns ws, H x ≠ none := fun x hx => by
    obtain ⟨w, hw, hx⟩ := List.mem_flatMap.mp hx
    have a := h.at' w hw
    rcases List.mem_cons.mp hx with e | hx
    · rw [e, a.a]; exact fun z => by cases z
    rcases List.mem_cons.mp hx with e | hx
    · rw [e, a.b]; exact fun z => by cases z
    rcases List.mem_cons.mp hx with e | hx
    · rw [e, a.c]; exact fun z => by cases z
    · obtain ⟨vs, e⟩ := h.rr.rk w hw x hx
      rw [e]; exact fun z => by cases z
  exact ⟨sh _ _ h.hp, (hn p (by rw [h.hp]; exact fun z => by cases z)).trans h.b, h.z, h.np, h.nd, fun x hx => ⟨(h.fr x hx).1, (hn x (live x hx)).trans (h.fr x hx).2⟩, fun w hw => (h.at' w hw).mono sb sh, h.rr.mono sb sh⟩
theorem Same.live {x : Addr} (s : Same H H') (h : H x ≠ none) : H' x ≠ none := fun z => by
  cases e : H x with
  | none => exact h e
  | some o => rw [s _ _ e] at z; cases z
end
def allLst : List D → Bool
  | [] => true
  | .lst _ :: ds => allLst ds
  | _ => false
theorem kids_rs {K : KFr} {B H : Hp} : ∀ {vs : List V} {ds : List D}, Kids K B H vs ds → allLst ds = true → ∃ rs, vs = rs.map V.ref ∧ RK K B H rs ds ∧ ∀ r ∈ rs, B r = none
  | _, _, .nil, _ => ⟨[], rfl, trivial, fun _ h => by cases h⟩
  | _, _, .cons (d := d) h r, ha => by
    cases d with
    | lst us =>
      obtain ⟨rs, e, k, hb⟩ := kids_rs r ha
      rcases h with ⟨hm, _⟩ | ⟨q, e1, hq, ho⟩
      · cases hm
      · subst e1 e
        refine ⟨q :: rs, rfl, ⟨ho, k⟩, fun r hr => ?_⟩
        rcases List.mem_cons.mp hr with e | hr
        · subst e; exact hq
        · exact hb r hr
    | _ => cases ha
theorem apart_nodup {B : Hp} {rs : List Addr} (h : Apart B (rs.map V.ref)) (hb : ∀ r ∈ rs, B r = none) : rs.Nodup := by
  unfold List.Nodup
  rw [List.pairwise_iff_getElem]
  intro i j hi hj lt e
  have gi : (rs.map V.ref)[i]? = some (V.ref rs[i]) := by rw [List.getElem?_map, List.getElem?_eq_getElem hi]; rfl
  have gj : (rs.map V.ref)[j]? = some (V.ref rs[i]) := by
    rw [List.getElem?_map, List.getElem?_eq_getElem hj, ← e]; rfl
  have := h i j _ gi gj (hb _ (List.getElem_mem hi))
  omega
def rowW : D → D → D → D → R D
  | dn, .lst da, .lst db, .lst dc => if allLst dc then .ok (.tup [dn, .lst da, .lst db, .lst dc]) else .bad
  | _, _, _, _ => .bad
def gRow (f1 f2 f3 f4 : List D → R D) (e : List D) : R D := (f1 e).bind fun dn => (f2 e).bind fun d2 => (f3 e).bind fun d3 => (f4 e).bind fun d4 => rowW dn d2 d3 d4
def KTr (K : KFr) (mg : Str → Option Value) (W : WX) (sg : St) (B H : Hp) (Q : VK) : R D → Prop
  | .ok (.lst ds) => ∀ B' H' p ws, Ext B H B' H' → TR K B' H' H p ws ds → Q (.ref p) H'
  | .ex c => ∀ B' H' a, Ext B H B' H' → mg c = some (.ref a) → W (.ref a) none sg H'
  | _ => False
def vTr (K : KFr) (mg : Str → Option Value) (G : List Md) (W : WX) (f : List D → R D) : TE := fun sg H Q =>
  ∃ B0 H0 B e, Sta K G B0 H0 sg e B H ∧ KTr K mg W sg B H Q (f e)
section
variable {K : KFr} {mg : Str → Option Value} {G G1 : List Md} {W : WX} {m : Pm} {it : List D → R (List D)} {t : D → List D → Option (List D)} {c : List D → R Bool} {f1 f2 f3 f4 : List D → R D} {is vs : List Nat}
theorem bind_okR {α β : Type} {r : R α} {f : α → R β} {y : β} (h : r.bind f = .ok y) : ∃ x, r = .ok x ∧ f x = .ok y := by
  cases r with
  | ok x => exact ⟨x, rfl, h⟩
  | ex _ => cases h
  | bad => cases h
theorem lc_ofT (hsub : ∀ i ∈ is, i ∈ vs) (sg : St) (H : Hp) (Q : VK) (h : vTr K mg G W (eComp it t c (gRow f1 f2 f3 f4)) sg H Q) :
    tLc (vI K mg G W m it) (vG K m is (wipeG G vs) G1 t) (vT K mg G1 W0 c) (tTupF (tCons (vE K mg G1 W0 .im f1) (tCons (vE K mg G1 W0 .fr f2) (tCons (vE K mg G1 W0 .fr f3) (tCons (vD K mg G1 W0 f4) tNil))))) vs sg H Q := by
  obtain ⟨B0, H0, B, e, S, k⟩ := h
  refine ⟨B0, H0, B, e, S, ?_⟩
  unfold eComp at k
  cases ei : it e with
  | bad => rw [ei] at k; exact k.elim
  | ex n => rw [ei] at k; exact k
  | ok ds =>
    rw [ei, R.bind_ok] at k
    intro B1 H1 J x1 w L hL
    obtain ⟨Gd, Y, wk, hgd, hy⟩ := w.ex
    cases ec : compL t c (gRow f1 f2 f3 f4) e ds with
    | bad => rw [ec] at k; exact k.elim
    | ex n => exact (compL_ex ec).elim
    | ok ys =>
      rw [ec, R.bind_ok, fitL_eq] at k
      by_cases hz : ys.length ≤ sizeLine
      · rw [if_pos hz] at k
        have S1 := S.later x1
        have S1w : Sta K (wipeG G vs) B0 H0 (L2.wipe sg vs) e B1 H1 := Sta.wipe S1
        have hLb : B1 L = none := x1.s.free hL
        refine lc_it wk (fun i H' => ∃ B' ws done rest, Ext B1 H1 B' H' ∧ B' L = none ∧ H' L = some (.lst (ws.map fun w => .ref w.q)) ∧ L ∉ owns ws ∧ (owns ws).Nodup ∧ (∀ x ∈ owns ws, H1 x = none ∧ B' x = none ∧ H' x ≠ none) ∧ (∀ w ∈ ws, w.At B' H') ∧ RRs K B' H' ws done ∧ compL t c (gRow f1 f2 f3 f4) e (ds.drop i) = .ok rest ∧ done ++ rest = ys)
          ⟨B1, [], [], ys, .newH x1.s hL, hLb, upd_same, (fun h => by cases h), List.nodup_nil, (fun _ h => by cases h), (fun _ h => by cases h), trivial, by rw [List.drop_zero]; exact ec, rfl⟩ (fun i H' _ hh => ?_) (fun i x H' H'' hi hh y => ?_) (fun H' hh => ?_)
        · obtain ⟨B', ws, done, rest, xx, _⟩ := hh
          exact hgd B' H' xx.b ((S1.ext.h).trans xx.h) xx.s
        · obtain ⟨B', ws, done, rest, xx, hbL, hhL, hnL, hnd, hfr, hat, hrr, er, ed⟩ := hh
          have liveL : H' L ≠ none := by rw [hhL]; exact fun z => by cases z
          have hd : ds[i]? = some ds[i] := List.getElem?_eq_getElem hi
          obtain ⟨rfl, rp⟩ := hy i H' x H'' ds[i] B' y hd xx.b (S1.ext.h.trans xx.h) xx.s
          rw [List.drop_eq_getElem_cons hi] at er
          unfold compL at er
          have S2 := S1w.later xx
          refine ⟨B0, H0, B', e, ds[i], S2, rp, ?_⟩
          cases et : t ds[i] e with
          | none => rw [et] at er; cases er
          | some e1 =>
            rw [et, ofO_some, R.bind_ok] at er
            intro sg1 S3 ag
            refine ⟨wipe_ag ag hsub, B0, H0, B', e1, S3, ?_⟩
            cases eb : c e1 with
            | bad => rw [eb] at er; cases er
            | ex _ => rw [eb] at er; cases er
            | ok b =>
              rw [eb, noX_ok, R.bind_ok] at er
              intro B4 H4 x4
              have live4 : ∀ x ∈ owns ws, H4 x ≠ none := fun x hx => Same.live x4.h (hfr x hx).2.2
              have bx4 : ∀ x ∈ owns ws, B4 x = none := fun x hx => (x4.n x (hfr x hx).2.2).trans (hfr x hx).2.1
              cases b with
              | false =>
                rw [if_neg (by decide)]
                exact ⟨B4, ws, done, rest, xx.trans x4, (x4.n L liveL).trans hbL, x4.h _ _ hhL, hnL, hnd, fun x hx => ⟨(hfr x hx).1, bx4 x hx, live4 x hx⟩, fun w hw => (hat w hw).mono x4.b x4.h, hrr.mono x4.b x4.h, er, ed⟩
              | true =>
                rw [if_pos rfl] at er ⊢
                cases eg : gRow f1 f2 f3 f4 e1 with
                | bad => rw [eg] at er; cases er
                | ex _ => rw [eg] at er; cases er
                | ok yv =>
                  rw [eg, noX_ok, R.bind_ok] at er
                  cases ers : compL t c (gRow f1 f2 f3 f4) e (ds.drop (i + 1)) with
                  | bad => rw [ers] at er; cases er
                  | ex _ => rw [ers] at er; cases er
                  | ok ys' =>
                    rw [ers] at er
                    cases er
                    obtain ⟨dn, e_1, eg⟩ := bind_okR eg
                    obtain ⟨d2, e_2, eg⟩ := bind_okR eg
                    obtain ⟨d3, e_3, eg⟩ := bind_okR eg
                    obtain ⟨d4, e_4, eg⟩ := bind_okR eg
                    have S4 := S3.later x4
                    show vE K mg G1 W0 .im f1 sg1 H4 _
                    refine ⟨B0, H0, B4, e1, S4, ?_⟩
                    rw [e_1]
                    intro B5 H5 v1 x5 r1
                    have S5 := S4.later x5
                    show vE K mg G1 W0 .fr f2 sg1 H5 _
                    refine ⟨B0, H0, B5, e1, S5, ?_⟩
                    rw [e_2]
                    intro B6 H6 v2 x6 r2
                    have S6 := S5.later x6
                    show vE K mg G1 W0 .fr f3 sg1 H6 _
                    refine ⟨B0, H0, B6, e1, S6, ?_⟩
                    rw [e_3]
                    intro B7 H7 v3 x7 r3
                    have S7 := S6.later x7
                    show vD K mg G1 W0 f4 sg1 H7 _
                    refine ⟨B0, H0, B7, e1, S7, ?_⟩
                    rw [e_4]
                    intro B8 H8 v4 x8 dp nw
                    refine ⟨(by show 4 ≤ sizeLine; rw [sizeLine_eq]; omega), fun T o hT hod => ?_⟩
                    obtain ⟨pa, rfl, ha0, hab, oa⟩ := r2
                    obtain ⟨pb, rfl, hb0, hbb, ob⟩ := r3
                    cases d2 with
                    | lst da =>
                      cases d3 with
                      | lst db =>
                        cases d4 with
                        | lst dc =>
                          have eg : (if allLst dc then R.ok (D.tup [dn, .lst da, .lst db, .lst dc]) else .bad) = .ok yv := eg
                          by_cases hal : allLst dc = true
                          · rw [if_pos hal] at eg
                            cases eg
                            obtain ⟨va, ga, ra⟩ := oa
                            obtain ⟨vb, gb, rb⟩ := ob
                            obtain ⟨pc, vc, rfl, hc8, hcb, kc, ac, nc⟩ := dp
                            obtain ⟨rs, rfl, rk, rsb⟩ := kids_rs kc hal
                            have ndr := apart_nodup ac rsb
                            -- what is new where
                            have c7 : H7 pc = none := nw pc (Ft.root hcb)
                            have r7 : ∀ r ∈ rs, H7 r = none := fun r hr => nw r (.inl ⟨pc, rfl, hcb, .inr ⟨_, hc8, List.mem_map.mpr ⟨r, hr, rfl⟩, rsb r hr⟩⟩)
                            have la7 : H7 pa ≠ none := Same.live x7.h (by rw [ga]; exact fun z => by cases z)
                            have lb7 : H7 pb ≠ none := by rw [gb]; exact fun z => by cases z
                            have nab : pa ≠ pb := fun z => by rw [← z, ga] at hb0; cases hb0
                            have nac : pa ≠ pc := fun z => la7 (z ▸ c7)
                            have nbc : pb ≠ pc := fun z => lb7 (z ▸ c7)
                            have nar : pa ∉ rs := fun z => la7 (r7 pa z)
                            have nbr : pb ∉ rs := fun z => lb7 (r7 pb z)
                            have ncr : pc ∉ rs := fun z => nc (List.mem_map.mpr ⟨pc, z, rfl⟩)
                            have s45 : Same H4 H5 := x5.h
                            have s46 : Same H4 H6 := s45.trans x6.h
                            have s47 : Same H4 H7 := s46.trans x7.h
                            have a4 : H4 pa = none := s45.free ha0
                            have b4 : H4 pb = none := s46.free hb0
                            have c4 : H4 pc = none := s47.free c7
                            have r4 : ∀ r ∈ rs, H4 r = none := fun r hr => s47.free (r7 r hr)
                            let w' : WR := ⟨T, v1, pa, pb, pc, va, vb, rs⟩
                            have new4 : ∀ x ∈ w'.own, H4 x = none := fun x hx => by
                              rcases List.mem_cons.mp hx with e | hx
                              · rw [e]; exact a4
                              rcases List.mem_cons.mp hx with e | hx
                              · rw [e]; exact b4
                              rcases List.mem_cons.mp hx with e | hx
                              · rw [e]; exact c4
                              · exact r4 x hx
                            have x48 : Ext B4 H4 B8 H8 := ((x5.trans x6).trans x7).trans x8
                            have xT : Ext B8 H8 (upd B8 T (.frz o (.tup [v1, .ref pa, .ref pb, .ref pc]))) (upd H8 T (.frz o (.tup [v1, .ref pa, .ref pb, .ref pc]))) := .newB x48.s hT
                            have x4T := x48.trans xT
                            have h8L : H8 L = some (.lst (ws.map fun w => .ref w.q)) := x48.h _ _ (x4.h _ _ hhL)
                            have hLT : L ≠ T := fun z => by rw [← z, h8L] at hT; cases hT
                            have b4L : B4 L = none := (x4.n L liveL).trans hbL
                            have lv4L : H4 L ≠ none := Same.live x4.h liveL
                            have bTL : (upd B8 T (.frz o (.tup [v1, .ref pa, .ref pb, .ref pc]))) L = none := (x4T.n L lv4L).trans b4L
                            have live8 : ∀ x ∈ w'.own, H8 x ≠ none := fun x hx => by
                              rcases List.mem_cons.mp hx with e | hx
                              · rw [e]; exact Same.live x8.h la7
                              rcases List.mem_cons.mp hx with e | hx
                              · rw [e]; exact Same.live x8.h lb7
                              rcases List.mem_cons.mp hx with e | hx
                              · rw [e]; show H8 pc ≠ none; rw [hc8]; exact fun z => by cases z
                              · obtain ⟨us, eu⟩ := rk.get x hx
                                rw [eu]; exact fun z => by cases z
                            have bnew : ∀ x ∈ w'.own, B8 x = none := fun x hx => by
                              rcases List.mem_cons.mp hx with e | hx
                              · rw [e]; exact (x8.n pa la7).trans ((x7.n pa (by rw [ga]; exact fun z => by cases z)).trans hab)
                              rcases List.mem_cons.mp hx with e | hx
                              · rw [e]; exact (x8.n pb lb7).trans hbb
                              rcases List.mem_cons.mp hx with e | hx
                              · rw [e]; exact hcb
                              · exact rsb x hx
                            have neL : ∀ x ∈ w'.own, x ≠ L := fun x hx z => lv4L (z ▸ new4 x hx)
                            have neT : ∀ x ∈ w'.own, x ≠ T := fun x hx z => live8 x hx (z ▸ hT)
                            have own' : owns (ws ++ [w']) = owns ws ++ w'.own := by unfold owns; rw [List.flatMap_append]; simp
                            have sT : Same H8 (upd H8 T (.frz o (.tup [v1, .ref pa, .ref pb, .ref pc]))) := xT.h
                            have at8 : w'.At (upd B8 T (.frz o (.tup [v1, .ref pa, .ref pb, .ref pc]))) (upd H8 T (.frz o (.tup [v1, .ref pa, .ref pb, .ref pc]))) :=
                              ⟨⟨o, upd_same, hod⟩, sT _ _ (x8.h _ _ (x7.h _ _ ga)), sT _ _ (x8.h _ _ gb), sT _ _ hc8⟩
                            have is8 : w'.Is K (upd B8 T (.frz o (.tup [v1, .ref pa, .ref pb, .ref pc]))) (upd H8 T (.frz o (.tup [v1, .ref pa, .ref pb, .ref pc]))) dn da db dc :=
                              ⟨Rep.mono ((x6.b.trans x7.b).trans (x8.b.trans xT.b)) r1, ra.mono (x7.b.trans (x8.b.trans xT.b)), rb.mono (x8.b.trans xT.b), rk.mono xT.b xT.h⟩
                            have agL : ∀ {w : WR} {o : HO} {H5 : Hp}, L ∉ w.own → ∀ x ∈ w.own, (upd H5 L o) x = H5 x := fun {w o H5} hn x hx => upd_ne fun z => hn (z ▸ hx)
                            have allno : ∀ w ∈ ws ++ [w'], L ∉ w.own := fun w hw z => by
                              rcases List.mem_append.mp hw with q | q
                              · exact hnL (List.mem_flatMap.mpr ⟨w, q, z⟩)
                              · have := List.mem_singleton.mp q
                                subst this
                                exact neL L z rfl
                            refine ⟨ws.map fun w => .ref w.q, (sT _ _ h8L), ?_, upd B8 T (.frz o (.tup [v1, .ref pa, .ref pb, .ref pc])), ws ++ [w'], done ++ [.tup [dn, .lst da, .lst db, .lst dc]], ys', ((xx.trans x4).trans x4T).mutH hL bTL, bTL, by rw [upd_same, List.map_append]; rfl, ?_, ?_, ?_, ?_, ?_, rfl, ?_⟩
                            · rw [List.length_map, hrr.len]
                              rw [← ed, List.length_append, List.length_cons] at hz
                              omega
                            · rw [own']
                              exact fun z => (List.mem_append.mp z).elim hnL fun z => neL L z rfl
                            · rw [own', List.nodup_append]
                              refine ⟨hnd, ?_, fun x hx y hy z => live4 x hx (z ▸ new4 y hy)⟩
                              refine List.nodup_cons.mpr ⟨?_, List.nodup_cons.mpr ⟨?_, List.nodup_cons.mpr ⟨ncr, ndr⟩⟩⟩
                              · intro z
                                rcases List.mem_cons.mp z with z | z
                                · exact nab z
                                rcases List.mem_cons.mp z with z | z
                                · exact nac z
                                · exact nar z
                              · intro z
                                rcases List.mem_cons.mp z with z | z
                                · exact nbc z
                                · exact nbr z
                            · intro x hx
                              rw [own'] at hx
                              rcases List.mem_append.mp hx with q | q
                              · have xL : x ≠ L := fun z => hnL (z ▸ q)
                                exact ⟨(hfr x q).1, (x4T.n x (live4 x q)).trans (bx4 x q), by rw [upd_ne xL]; exact Same.live x4T.h (live4 x q)⟩
                              · refine ⟨(xx.trans x4).h.free (new4 x q), by rw [upd_ne (neT x q)]; exact bnew x q, by rw [upd_ne (neL x q)]; exact Same.live xT.h (live8 x q)⟩
                            · intro w hw
                              rcases List.mem_append.mp hw with q | q
                              · exact (((hat w q).mono x4.b x4.h).mono x4T.b x4T.h).off (agL (allno w hw))
                              · have := List.mem_singleton.mp q
                                subst this
                                exact at8.off (agL (allno _ hw))
                            · exact (RRs.append is8 ((hrr.mono x4.b x4.h).mono x4T.b x4T.h)).off fun w hw => agL (allno w hw)
                            · rw [List.append_assoc]
                              exact ed
                          · rw [if_neg hal] at eg; cases eg
                        | _ => cases eg
                      | _ => cases eg
                    | _ => cases eg
        · obtain ⟨B', ws, done, rest, xx, hbL, hhL, hnL, hnd, hfr, hat, hrr, er, ed⟩ := hh
          rw [List.drop_length] at er
          cases er
          rw [List.append_nil] at ed
          subst ed
          exact k B' H' L ws (x1.trans xx) ⟨hhL, hbL, x1.h.free hL, hnL, hnd, fun x hx => ⟨x1.h.free (hfr x hx).1, (hfr x hx).2.1⟩, hat, hrr⟩
      · rw [if_neg hz] at k; exact k.elim
end
end L2.VL
set_option Elab.async false
set_option linter.all false
set_option maxRecDepth 100000
set_option maxHeartbeats 4000000
namespace L2.VL
open PySem PySem.Spec PyProof.Rows
section
variable {X : Cx} {G G1 : List Md} {W : WX} {m : Pm} {it : List D → R (List D)} {t : D → List D → Option (List D)} {c : List D → R Bool} {f1 f2 f3 f4 : List D → R D} {is : List Nat} {a1 a2 a3 a4 tg iter : Expr} {ifs : List Expr} {scope : Scope} {own : List (Str × Nat)} {pos tpos : Pos} {k1 : Nat}
theorem vt_comp (hc : X.calm = true) (hN : X.N.Nodup) (hi : PI X tg iter (vI (kf X) X.mg G W m it)) (ok : BlkOk X.N X.env.scope scope own)
    (hg : ∀ (s : Shared) (H : Hp) (C : Addr) (cl : List (Str × Addr)) (fp : List Addr), PG (X.blk s H scope (compEnvC scope cl C X.env) fp) tg (vG (kf X) m is (wipeG G (own.map (·.2))) G1 t))
    (ht : ∀ (s : Shared) (H : Hp) (C : Addr) (cl : List (Str × Addr)) (fp : List Addr), PTs (X.blk s H scope (compEnvC scope cl C X.env) fp) ifs (vT (kf X) X.mg G1 W0 c))
    (h1 : ∀ (s : Shared) (H : Hp) (C : Addr) (cl : List (Str × Addr)) (fp : List Addr), PE (X.blk s H scope (compEnvC scope cl C X.env) fp) a1 (vE (kf X) X.mg G1 W0 .im f1))
    (h2 : ∀ (s : Shared) (H : Hp) (C : Addr) (cl : List (Str × Addr)) (fp : List Addr), PE (X.blk s H scope (compEnvC scope cl C X.env) fp) a2 (vE (kf X) X.mg G1 W0 .fr f2))
    (h3 : ∀ (s : Shared) (H : Hp) (C : Addr) (cl : List (Str × Addr)) (fp : List Addr), PE (X.blk s H scope (compEnvC scope cl C X.env) fp) a3 (vE (kf X) X.mg G1 W0 .fr f3))
    (h4 : ∀ (s : Shared) (H : Hp) (C : Addr) (cl : List (Str × Addr)) (fp : List Addr), PE (X.blk s H scope (compEnvC scope cl C X.env) fp) a4 (vD (kf X) X.mg G1 W0 f4))
    (n1 : ∀ (s : Shared) (H : Hp) (C : Addr) (cl : List (Str × Addr)) (fp : List Addr), starEach [a1, a2, a3, a4] (X.blk s H scope (compEnvC scope cl C X.env) fp).env = (false, eval a1 (X.blk s H scope (compEnvC scope cl C X.env) fp).env) :: starEach [a2, a3, a4] (X.blk s H scope (compEnvC scope cl C X.env) fp).env := by intros; rfl)
    (n2 : ∀ (s : Shared) (H : Hp) (C : Addr) (cl : List (Str × Addr)) (fp : List Addr), starEach [a2, a3, a4] (X.blk s H scope (compEnvC scope cl C X.env) fp).env = (false, eval a2 (X.blk s H scope (compEnvC scope cl C X.env) fp).env) :: starEach [a3, a4] (X.blk s H scope (compEnvC scope cl C X.env) fp).env := by intros; rfl)
    (n3 : ∀ (s : Shared) (H : Hp) (C : Addr) (cl : List (Str × Addr)) (fp : List Addr), starEach [a3, a4] (X.blk s H scope (compEnvC scope cl C X.env) fp).env = (false, eval a3 (X.blk s H scope (compEnvC scope cl C X.env) fp).env) :: starEach [a4] (X.blk s H scope (compEnvC scope cl C X.env) fp).env := by intros; rfl)
    (n4 : ∀ (s : Shared) (H : Hp) (C : Addr) (cl : List (Str × Addr)) (fp : List Addr), starEach [a4] (X.blk s H scope (compEnvC scope cl C X.env) fp).env = (false, eval a4 (X.blk s H scope (compEnvC scope cl C X.env) fp).env) :: starEach [] (X.blk s H scope (compEnvC scope cl C X.env) fp).env := by intros; rfl)
    (hsub : ∀ i ∈ is, i ∈ own.map (·.2) := by decide) (hs : ∀ x, foldedSetIterable iter X.env x = pure x := by intro _; rfl) :
    PE X (.ListComp (.Tuple [a1, a2, a3, a4] k1 tpos) [⟨tg, iter, ifs, 0⟩] scope pos) (vTr (kf X) X.mg G W (eComp it t c (gRow f1 f2 f3 f4))) :=
  pe_weak (pe_lc hc hN hi ok hg ht (fun s H C cl fp => pe_tupF (pa_cons (h1 s H C cl fp) (pa_cons (h2 s H C cl fp) (pa_cons (h3 s H C cl fp) (pa_cons (h4 s H C cl fp) pa_nil (n4 s H C cl fp)) (n3 s H C cl fp)) (n2 s H C cl fp)) (n1 s H C cl fp))) hs) (lc_ofT hsub)
def vSt (K : KFr) (mg : Str → Option Value) (G : List Md) (W : WX) (f : List D → R D) : TS := fun Dn sg H =>
  ∃ B0 H0 B e, Sta K G B0 H0 sg e B H ∧ match f e with
    | .ok (.lst ds) => ∀ B' H' p ws, Ext B0 H0 B' H' → TR K B' H' H0 p ws ds → Dn.rt (.ref p) H'
    | .ex c => ∀ B' H' a sg', Ext B0 H0 B' H' → mg c = some (.ref a) → W (.ref a) none sg' H'
    | _ => False
theorem TR.earlier {K : KFr} {B H Hz H0 : Hp} {p : Addr} {ws : List WR} {ds : List D} (h : TR K B H Hz p ws ds) (s : Same H0 Hz) : TR K B H H0 p ws ds :=
  ⟨h.hp, h.b, s.free h.z, h.np, h.nd, fun x hx => ⟨s.free (h.fr x hx).1, (h.fr x hx).2⟩, h.at', h.rr⟩
theorem vst_ret {a : Expr} {f : List D → R D} (he : PE X a (vTr (kf X) X.mg G W f)) : PSs X [.Return (some a) pos] (vSt (kf X) X.mg G W f) := by
  refine pss_weak (pss_one (ps_ret he)) fun Dn sg H ⟨B0, H0, B, e, S, k⟩ => ⟨B0, H0, B, e, S, ?_⟩
  cases ef : f e with
  | bad => rw [ef] at k; exact k
  | ex c => rw [ef] at k; exact fun B' H' b y hm => k B' H' b sg (S.ext.trans y) hm
  | ok d =>
    rw [ef] at k
    cases d with
    | lst ds => exact fun B' H' p ws x h => k B' H' p ws (S.ext.trans x) (h.earlier S.ext.h)
    | _ => exact k
end
def KTf (K : KFr) (mg : Str → Option Value) (B H : Hp) (Q : VK) (E : XK) : R D → Prop
  | .ok (.lst ds) => ∀ B' H' p ws, Ext B H B' H' → TR K B' H' H p ws ds → Q (.ref p) H'
  | .ex c => ∀ B' H' a, Ext B H B' H' → mg c = some (.ref a) → E (.ref a) none H'
  | _ => False
def spT (K : KFr) (mg : Str → Option Value) (F : List D → R D) : Sp := fun vs H Q E => ∃ B ds, Same B H ∧ Args K B H [.im] vs ds ∧ KTf K mg B H Q E (F ds)
@[simp] def runT (n : Nat) (f : List D → R D) (ds : List D) : R D := f (ds ++ List.replicate (n - ds.length) .non)
section
variable {P : Program} {w : World} {K : PySem.W.Frag} {mg : Str → Option Value} {base : Heap} {x qual : Str} {st : Stmt} {f : Addr} {fd : FuncData} {N ps : List Str} {k : Nat} {g : List D → R D}
theorem okVT {M : List D → R D} (F : Fun K x qual st f fd) (S : FnScope N ps (defScope st)) (hl : 1 = ps.length) (hM : M = runT N.length g)
    (hbody : ∀ (cdv : Value) (A : Around) (outer : List Env) (s : Shared) (H : Hp) (E : XK), Room k (A.deeper (envOfC qual (defScope st) s.heap.objs.size f cdv)) →
      PSs (cxOf (L2.CX P w) P w K mg base N qual (defScope st) f cdv A outer s H E) (defBody st) (vSt ⟨K, P, w⟩ mg (startG [.im] N.length) (fun cls d _ H => E cls d H) g)) :
    FnOk P w K mg base (L2.CX P w) (k + 1) f fd ps (spT ⟨K, P, w⟩ mg M) := by
  subst hM
  refine F.okX S (fun vs H Q E h => ?_) (fun cdv A outer s H vs Q E hr h => ⟨_, hbody cdv A outer s H E hr, ?_⟩)
  · obtain ⟨B, ds, _, ha, _⟩ := h
    rw [ha.len.1]
    exact hl
  · obtain ⟨B, ds, sb, ha, kf⟩ := h
    have hS := slots_args ha (N.length - 1)
    refine ⟨B, H, B, ds ++ List.replicate (N.length - ds.length) .non, ⟨.refl sb, ?_, fun i j m n v w a g1 o1 => (startG_noow g1 o1).elim⟩, ?_⟩
    · rw [show N.length - ds.length = N.length - 1 by rw [ha.len.2]; rfl]
      unfold start startG
      rw [show N.length - vs.length = N.length - 1 by rw [ha.len.1]; rfl]
      exact hS
    · unfold runT at kf
      cases eg : g (ds ++ List.replicate (N.length - ds.length) .non) with
      | bad => rw [eg] at kf; exact kf
      | ex c => rw [eg] at kf; exact fun B' H' a sg' y hm => kf B' H' a y hm
      | ok d =>
        rw [eg] at kf
        cases d with
        | lst ds => exact kf
        | _ => exact kf.elim
end
def imU : Md → Md
  | .im => .im
  | _ => .un
theorem Slots.imU {K : KFr} {H0 H1 B H H' : Hp} : ∀ {ms : List Md} {xs : List (Option V)} {ds : List D}, Slots K H0 B H ms xs ds → Slots K H1 B H' (ms.map L2.VL.imU) xs ds
  | [], [], [], _ => trivial
  | m :: ms, x :: xs, d :: ds, ⟨h, r⟩ => by
    refine ⟨?_, Slots.imU r⟩
    cases m with
    | im =>
      cases x with
      | none => exact h.elim
      | some v => exact h
    | _ => trivial
theorem imU_no {G : List Md} {i : Nat} {m : Md} (g : (G.map imU)[i]? = some m) (o : isO m = true) : False := by
  rw [List.getElem?_map] at g
  cases e : G[i]? with
  | none => rw [e] at g; cases g
  | some n =>
    rw [e] at g
    have g : imU n = m := Option.some.inj g
    subst g
    cases n <;> cases o
theorem Sta.imU {K : KFr} {G : List Md} {B0 H0 B1 H1 B H H' : Hp} {sg : St} {e : List D} (S : Sta K G B0 H0 sg e B H) (x : Ext B1 H1 B H') : Sta K (G.map L2.VL.imU) B1 H1 sg e B H' :=
  ⟨x, S.sl.imU, fun i j m n v w a g1 o1 => (imU_no g1 o1).elim⟩
theorem ve_aq {X : Cx} {G : List Md} {W : WX} {pos : Pos} {i : Nat} {x : Str} {w : V} (hG : G[i]? = some (.aq w) := by rfl) (hN : X.N[i]? = some x := by rfl) (hv : Vis X.env.scope x := by first | exact Or.inl rfl | exact Or.inr (Or.inl rfl) | exact Or.inr (Or.inr rfl)) (hd : (x == ("__debug__" : Str)) = false := by decide)
    (hcd : (x == ("__classdict__" : Str)) = false := by decide) : PE X (.Name x pos) (vE (kf X) X.mg G W .ar (eVar i)) := by
  refine pe_weak (pe_var hN hv hd hcd) fun sg H Q ⟨B0, H0, B, e, S, k⟩ => ?_
  obtain ⟨v, d, h1, h2, h3⟩ := S.sl.get hG
  unfold eVar at k
  rw [h2] at k
  cases v with
  | none => exact h3.elim
  | some v => exact ⟨v, h1, k B H v (.refl S.ext.s) h3.1⟩
def tearOk : List D → Bool
  | [] => true
  | .tup [_, .lst da, .lst _, .lst (_ :: _)] :: ds => decide (da.length < sizeLine) && tearOk ds
  | _ => false
def tearR : D → R D
  | .lst ds => if tearOk ds then .ok (.lst ds) else .bad
  | _ => .bad
def vS2 (K : KFr) (mg : Str → Option Value) (i : Nat) (Ga : V → List Md) (G' : List Md) (W : WX) (rm : Rm) (g : List D → R Fl) : TS := fun Dn sg H =>
  ∃ p ws ds B0 H0 B1 H1 B e, Ext B0 H0 B1 H1 ∧ TR K B1 H1 H0 p ws ds ∧ tearOk ds = true ∧ (Ga (.ref p))[i]? = some (.aq (.ref p)) ∧ Sta K (Ga (.ref p)) B1 H1 sg e B H ∧ KS K mg G' W rm B0 H0 B Dn (g e)
section
variable {X : Cx} {G : List Md} {Ga Gb : V → List Md} {G' : List Md} {W : WX} {rm : Rm} {pos pos' p px : Pos} {a : Expr} {st : Stmt} {rest : List Stmt} {fa : List D → R D} {F : List D → R D} {g g1 g2 : List D → R Fl} {k i : Nat} {f : Addr} {fd : FuncData} {ps : List Str} {x y : Str}
theorem vs2_cons (h1 : ∀ w, PS X st (vS (kf X) X.mg (Ga w) (Gb w) W rm g1)) (h2 : PSs X rest (vS2 (kf X) X.mg i Gb G' W rm g2)) (hi : ∀ w, (Gb w)[i]? = some (.aq w) := by intro _; rfl) : PSs X (st :: rest) (vS2 (kf X) X.mg i Ga G' W rm (sSeq g1 g2)) := by
  have h1' : PS X st (fun Dn sg H => ∃ w, vS (kf X) X.mg (Ga w) (Gb w) W rm g1 Dn sg H) := ⟨fun pins s σ H D I ⟨w, q⟩ => (h1 w).run pins s σ H D I q⟩
  refine pss_weak (pss_cons h1' h2) fun Dn sg H ⟨p, ws, ds, B0, H0, B1, H1, B, e, x, T, to, gi, S, k⟩ => ⟨.ref p, B1, H1, B, e, S, ?_⟩
  unfold sSeq at k
  cases eg : g1 e with
  | bad => rw [eg] at k; exact k
  | ex c =>
    rw [eg] at k
    exact fun B' H' a sg' y hm => k B' H' a sg' (x.trans y) hm
  | ok fl =>
    rw [eg] at k
    cases fl with
    | nx e1 => exact fun sg' B' H' S' s' => ⟨p, ws, ds, B0, H0, B1, H1, B', e1, x, T, to, hi _, S', KS.later k s'⟩
    | rt d =>
      intro B' H' v y r
      refine k B' H' v (x.trans y) ?_
      cases rm with
      | im => exact r
      | fr =>
        obtain ⟨q, q1, q2, q3, q4⟩ := r
        exact ⟨q, q1, x.h.free q2, q3, q4⟩
      | df => exact ⟨r.1, r.2.1, fun a f => x.h.free (r.2.2 a f)⟩
      | io w =>
        obtain ⟨r1, d0, q1, q2, q3, q4⟩ := r
        exact ⟨r1, d0, q1, q2, q3, fun a f => x.h.free (q4 a f)⟩
@[simp] def sAsgT (i : Nat) (F : List D → R D) (fa : List D → R D) (e : List D) : R Fl := (fa e).bind fun d => (F [d]).bind fun r => (tearR r).bind fun r => .ok (.nx (e.set i r))
theorem vs2_start (Fk : FnOk X.prog X.w (kf X) X.mg X.base (L2.CX X.prog X.w) k f fd ps (spT (kf X) X.mg F)) (hr : Room k X.A) (hm : X.mg y = some (.ref f)) (hk : PySem.W.keepIn (kf X) (.ref f) = true) (hb : Binds (kf X) fd ps []) (tk : Takes X W)
    (ha : PE X a (vE (kf X) X.mg G W .im fa)) (hrest : PSs X rest (vS2 (kf X) X.mg i Ga G' W rm g)) (hGa : ∀ w, Ga w = (G.map imU).set i (.aq w)) (hN : X.N.Nodup) (hlen : i < G.length := by decide)
    (hi : X.N[i]? = some x := by rfl) (hx : Loc X.env.scope x := by first | exact Or.inl rfl | exact Or.inr rfl) (hs : swapsWith (.Call (.Name y p) [a] [] pos') (some (.Name x px)) pos.line X.env = pure false := by rfl)
    (hf : X.fn x = true ∨ X.env.scope.names.lookup x = some .local := by first | exact .inl rfl | exact .inr rfl)
    (hg : Gl X y := by rfl) (hdb : (y == ("__debug__" : Str)) = false := by decide) (he : starEach [a] X.env = (false, eval a X.env) :: starEach [] X.env := by rfl) (hpl : (backTo pos' (starEach [] X.env)).any (·.1) = false := by rfl) :
    PSs X (.Assign [.Name x px] (.Call (.Name y p) [a] [] pos') pos :: rest) (vS (kf X) X.mg G G' W rm (sSeq (sAsgT i F fa) g)) := by
  refine pss_weak (pss_cons (ps_set hN hi hx (pe_callS Fk hr hg hm hk hb (fun σ => passAt tk σ) (pa_cons ha pa_nil he) hdb he hpl) hs hf) hrest) fun Dn sg H ⟨B0, H0, B, e, S, k⟩ => ?_
  unfold sSeq sAsgT at k
  show vE (kf X) X.mg G W .im fa sg H _
  refine ⟨B0, H0, B, e, S, ?_⟩
  cases ea : fa e with
  | bad => rw [ea] at k; exact k.elim
  | ex c => rw [ea] at k; exact ks_ex S k
  | ok d =>
    rw [ea] at k
    have k : KS (kf X) X.mg G' W rm B0 H0 B Dn (((F [d]).bind fun r => (tearR r).bind fun r => R.ok (Fl.nx (e.set i r))).bind fun fl => fl.thn g) := k
    intro B1 H1 v x1 r1
    have S1 := S.later x1
    refine ⟨B1, [d], x1.s, ⟨r1, trivial⟩, ?_⟩
    cases eF : F [d] with
    | bad => rw [eF] at k; exact k
    | ex c =>
      rw [eF] at k
      exact fun B' H' b y hm => k B' H' b sg (S1.ext.trans y) hm
    | ok r =>
      rw [eF] at k
      cases r with
      | lst ds =>
        have k : KS (kf X) X.mg G' W rm B0 H0 B Dn (((if tearOk ds then R.ok (D.lst ds) else .bad).bind fun r => R.ok (Fl.nx (e.set i r))).bind fun fl => fl.thn g) := k
        by_cases ht : tearOk ds = true
        · rw [if_pos ht] at k
          have k : KS (kf X) X.mg G' W rm B0 H0 B Dn (g (e.set i (.lst ds))) := k
          intro B2 H2 q ws x2 T
          have S2 := S1.later x2
          have SU := S2.imU (.refl x2.s)
          refine ⟨q, ws, ds, B0, H0, B2, H2, B2, e.set i (.lst ds), S2.ext, T.earlier S1.ext.h, ht, ?_, ?_, KS.later k (x1.b.trans x2.b)⟩
          · rw [hGa, List.getElem?_set_self (by rw [List.length_map]; exact hlen)]
          · rw [hGa]
            exact SU.set i (m := .aq (.ref q)) ⟨T.rep x2.s, rfl⟩ (fun z => by cases z)
        · rw [if_neg ht] at k; exact k.elim
      | _ => exact k.elim
end
section
variable {X : Cx} {spos pos apos pn pa bpos : Pos} {i j : Nat} {x y : Str} {jj : Option Str}
def tApp2 (i j : Nat) : TS := fun Dn sg H => ∃ l xs v, sg[i]? = some (some (.ref l)) ∧ sg[j]? = some (some v) ∧ H l = some (.lst xs) ∧ xs.length < sizeLine ∧ Dn.nx sg (upd H l (.lst (xs ++ [v])))
def tClr (i : Nat) : TS := fun Dn sg H => ∃ l xs, sg[i]? = some (some (.ref l)) ∧ H l = some (.lst xs) ∧ Dn.nx sg (upd H l (.lst []))
def tClr0 (i : Nat) : TS := fun Dn sg H => ∃ c r vs us, sg[i]? = some (some (.ref c)) ∧ H c = some (.lst (.ref r :: vs)) ∧ H r = some (.lst us) ∧ Dn.nx sg (upd H r (.lst []))
theorem ps_app2 (hN : X.N[i]? = some x := by rfl) (hv : Vis X.env.scope x := by first | exact Or.inl rfl | exact Or.inr (Or.inl rfl) | exact Or.inr (Or.inr rfl)) (hdb : (x == ("__debug__" : Str)) = false := by decide) (hcd : (x == ("__classdict__" : Str)) = false := by decide)
    (hN2 : X.N[j]? = some y := by rfl) (hv2 : Vis X.env.scope y := by first | exact Or.inl rfl | exact Or.inr (Or.inl rfl) | exact Or.inr (Or.inr rfl)) (hdb2 : (y == ("__debug__" : Str)) = false := by decide) (hcd2 : (y == ("__classdict__" : Str)) = false := by decide)
    (hs : swapsWith (.Call (.Attribute (.Name x pn) "append" apos) [.Name y pa] [] pos) none spos.line X.env = pure false := by rfl)
    (hbase : attributeBase (.Name x pn) "append" X.env (eval (.Name x pn) X.env) = eval (.Name x pn) X.env := by rfl)
    (hfew : ((backTo pos (starEach [.Name y pa] X.env)).all (fun x => !x.1) && (backToKw pos (keywordEach [] X.env)).all (fun x => x.1.isSome)
      && decide (([.Name y pa] : List Expr).length + ([] : List Keyword).length + (if ([] : List Keyword).isEmpty then 0 else 1) < 30)) = true := by rfl)
    (hline : (apos.endLine == pos.line) = true := by rfl) (he : starEach [.Name y pa] X.env = (false, eval (.Name y pa) X.env) :: starEach [] X.env := by rfl) (hpl : (backTo pos (starEach [] X.env)).any (·.1) = false := by rfl) :
    PS X (.Expr (.Call (.Attribute (.Name x pn) "append" apos) [.Name y pa] [] pos) spos) (tApp2 i j) := by
  refine ps_weak (ps_expr (pe_bm PySem.F.plainAttrs_list PySem.F.slot_list_append rfl mt_append (pe_var hN hv hdb hcd) (pa_cons (pe_var hN2 hv2 hdb2 hcd2) pa_nil he) hbase hfew hline he hpl) hs) fun Dn sg H ⟨l, xs, v, h1, h2, h3, h4, q⟩ => ?_
  exact ⟨.ref l, h1, .inl ⟨rfl, xs, SqL.of h3⟩, v, h2, l, xs, v, rfl, rfl, h3, h4, q⟩
theorem ps_clr (hN : X.N[i]? = some x := by rfl) (hv : Vis X.env.scope x := by first | exact Or.inl rfl | exact Or.inr (Or.inl rfl) | exact Or.inr (Or.inr rfl)) (hdb : (x == ("__debug__" : Str)) = false := by decide) (hcd : (x == ("__classdict__" : Str)) = false := by decide)
    (hs : swapsWith (.Call (.Attribute (.Name x pn) "clear" apos) [] [] pos) none spos.line X.env = pure false := by rfl)
    (hbase : attributeBase (.Name x pn) "clear" X.env (eval (.Name x pn) X.env) = eval (.Name x pn) X.env := by rfl) (hline : (apos.endLine == pos.line) = true := by rfl) :
    PS X (.Expr (.Call (.Attribute (.Name x pn) "clear" apos) [] [] pos) spos) (tClr i) := by
  refine ps_weak (ps_expr (pe_bm0 PySem.F.plainAttrs_list PySem.F.slot_list_clear rfl mt_clear (pe_var hN hv hdb hcd) hbase hline) hs) fun Dn sg H ⟨l, xs, h1, h3, q⟩ => ?_
  exact ⟨.ref l, h1, .inl ⟨rfl, xs, SqL.of h3⟩, l, xs, rfl, rfl, h3, q⟩
theorem atI_zero {α : Type} {v : α} {vs : List α} : atI (v :: vs) 0 = some v := by
  unfold atI ixN
  rw [if_pos (by decide), if_pos (by rw [List.length_cons]; omega)]
  rfl
theorem ps_clr0 {kj kp} (hN : X.N[i]? = some x := by rfl) (hv : Vis X.env.scope x := by first | exact Or.inl rfl | exact Or.inr (Or.inl rfl) | exact Or.inr (Or.inr rfl)) (hdb : (x == ("__debug__" : Str)) = false := by decide) (hcd : (x == ("__classdict__" : Str)) = false := by decide)
    (hs : swapsWith (.Call (.Attribute (.Subscript (.Name x pn) (.Constant (.int 0) kj kp) bpos) "clear" apos) [] [] pos) none spos.line X.env = pure false := by rfl)
    (hbase : attributeBase (.Subscript (.Name x pn) (.Constant (.int 0) kj kp) bpos) "clear" X.env (eval (.Subscript (.Name x pn) (.Constant (.int 0) kj kp) bpos) X.env) = eval (.Subscript (.Name x pn) (.Constant (.int 0) kj kp) bpos) X.env := by rfl) (hline : (apos.endLine == pos.line) = true := by rfl)
    (hp : PlainIx (.Constant (.int 0) kj kp) := by exact fun _ _ => rfl) :
    PS X (.Expr (.Call (.Attribute (.Subscript (.Name x pn) (.Constant (.int 0) kj kp) bpos) "clear" apos) [] [] pos) spos) (tClr0 i) := by
  refine ps_weak (ps_expr (pe_bm0 PySem.F.plainAttrs_list PySem.F.slot_list_clear rfl mt_clear (pe_ix ix_seq (pe_var hN hv hdb hcd) pe_int hp) hbase hline) hs) fun Dn sg H ⟨c, r, vs, us, h1, h2, h3, q⟩ => ?_
  exact ⟨.ref c, h1, .inl ⟨c, .ref r :: vs, 0, .ref r, rfl, rfl, SqL.of h2, atI_zero, .inl ⟨rfl, us, SqL.of h3⟩, r, us, rfl, rfl, h3, q⟩⟩
end
structure WR.Lives (w : WR) (H : Hp) : Prop where
  q : ∃ o, H w.q = some (.frz o (.tup [w.vn, .ref w.a, .ref w.b, .ref w.c]))
  a : H w.a = some (.lst w.as)
  b : H w.b = some (.lst w.bs)
  c : H w.c = some (.lst (w.rs.map V.ref))
  r : ∃ r rs, w.rs = r :: rs ∧ ∃ us, H r = some (.lst us)
  rl : ∀ r ∈ w.rs, ∃ us, H r = some (.lst us)
  l : w.as.length < sizeLine
theorem TR.lives {K : KFr} {B H Hz : Hp} {p : Addr} {ws : List WR} {ds : List D} (s : Same B H) (h : TR K B H Hz p ws ds) (ht : tearOk ds = true) : ∀ w ∈ ws, w.Lives H := by
  have go : ∀ (ws : List WR) (ds : List D), (∀ w ∈ ws, w.At B H) → RRs K B H ws ds → tearOk ds = true → ∀ w ∈ ws, w.Lives H := by
    intro ws
    induction ws with
    | nil => intro ds _ _ _ w hw; cases hw
    | cons w ws ih =>
      intro ds ha hr ht
      match ds, hr, ht with
      | .tup [_, .lst da, .lst _, .lst (dc :: dcs)] :: ds, ⟨h1, h2⟩, ht =>
        have ht : (decide (da.length < sizeLine) && tearOk ds) = true := ht
        rw [Bool.and_eq_true] at ht
        intro v hv
        rcases List.mem_cons.mp hv with e | hv
        · subst e
          have a := ha v List.mem_cons_self
          obtain ⟨o, e1, _⟩ := a.q
          refine ⟨⟨o, s _ _ e1⟩, a.a, a.b, a.c, ?_, h1.c.get, by rw [h1.a.length]; exact of_decide_eq_true ht.1⟩
          cases hr : v.rs with
          | nil => have := h1.c.len; rw [hr] at this; cases this
          | cons r rs =>
            obtain ⟨us, eu⟩ := h1.c.get r (by rw [hr]; exact List.mem_cons_self)
            exact ⟨r, rs, rfl, us, eu⟩
        · exact ih ds (fun w hw => ha w (List.mem_cons_of_mem _ hw)) h2 ht.2 v hv
  exact go ws ds h.at' h.rr ht
def tTear (i : Nat) (js : List Nat) : TS := fun Dn sg H => ∃ p ws, sg[i]? = some (some (.ref p)) ∧ H p = some (.lst (ws.map fun w => .ref w.q)) ∧ p ∉ owns ws ∧ (owns ws).Nodup ∧ (∀ w ∈ ws, w.Lives H) ∧ (∀ j ∈ js, j < sg.length) ∧
  ∀ sg' H', Ag js sg sg' → (∀ x, x ∉ owns ws → H' x = H x) → Dn.nx sg' H'
section
variable {X : Cx} {pos tpos pn px : Pos} {i j1 j2 j3 j4 k1 : Nat} {x : Str} {es : List Expr} {body : List Stmt}
theorem ps_tear (hp : PassesOwn (model X.prog X.w) X.A X.env X.xe) (hc : X.calm = true) {s1 s2 s3 : Stmt} {t : L2.TGs} (ht : PNs X es [j1, j2, j3, j4] t)
    (b1 : PS X s1 (tApp2 j2 j1)) (b2 : PS X s2 (tClr j3)) (b3 : PS X s3 (tClr0 j4)) (hd : [j1, j2, j3, j4].Nodup := by decide) (hij : i ∉ [j1, j2, j3, j4] := by decide)
    (hN : X.N[i]? = some x := by rfl) (hv : Vis X.env.scope x := by first | exact Or.inl rfl | exact Or.inr (Or.inl rfl) | exact Or.inr (Or.inr rfl)) (hdb : (x == ("__debug__" : Str)) = false := by decide) (hcd : (x == ("__classdict__" : Str)) = false := by decide)
    (hn : (assignEach es X.env).length = 4 := by rfl) (hst : (assignEach es X.env).findIdx? (·.1) = none := by rfl)
    (hs : ∀ z, foldedSetIterable (.Name x pn) X.env z = pure z := by intro _; rfl) :
    PS X (.For (.Tuple es k1 tpos) (.Name x pn) [s1, s2, s3] [] pos) (tTear i [j1, j2, j3, j4]) := by
  refine ps_weak (ps_for hp hc (pi_list (pe_var hN hv hdb hcd)) (pg_tup hc ht.pg hn hst) (pss_cons b1 (pss_cons b2 (pss_one b3))) hs) fun Dn sg H ⟨p, ws, g1, g2, np, nd, lv, js, q⟩ => ?_
  refine ⟨.ref p, g1, p, rfl, ⟨_, SqL.of g2⟩, ?_⟩
  have hps : ∀ {a : Addr}, a ∈ owns ws → a ≠ p := fun h z => np (z ▸ h)
  have sub : ∀ k {z : Addr}, z ∈ owns (ws.take k) → z ∈ owns ws := fun k z h => by
    obtain ⟨w, hw, hx⟩ := List.mem_flatMap.mp h
    exact List.mem_flatMap.mpr ⟨w, List.mem_of_mem_take hw, hx⟩
  refine for_it (walk_list (K := kf X) (a := p) (xs := ws.map fun w => V.ref w.q)) (fun k sg' H' => Ag [j1, j2, j3, j4] sg sg' ∧ ∀ x, x ∉ owns (ws.take k) → H' x = H x) ⟨Ag.refl _ _, fun _ _ => rfl⟩
    (fun k sg' H' _ ⟨_, hh⟩ => SqL.of (by rw [hh p fun z => np (sub k z)]; exact g2)) (fun k v sg' H' H'' hk ⟨ag, hh⟩ y => ?_) (fun sg' H' ⟨ag, hh⟩ => ?_)
  · rw [List.length_map] at hk
    obtain ⟨e1, e2⟩ := y
    subst e1
    have ew : (ws.map fun w => V.ref w.q)[k]? = some (.ref (ws[k]).q) := by rw [List.getElem?_map, List.getElem?_eq_getElem hk]; rfl
    rw [ew] at e2
    cases e2
    generalize hw : ws[k] = w
    have hm : w ∈ ws := hw ▸ List.getElem_mem hk
    have L := lv w hm
    -- the row's things are not among the earlier ones'
    have split : ws = ws.take k ++ w :: ws.drop (k + 1) := by rw [← hw, ← List.drop_eq_getElem_cons hk, List.take_append_drop]
    have os : owns ws = owns (ws.take k) ++ (w.own ++ owns (ws.drop (k + 1))) := by
      have : owns ws = owns (ws.take k ++ w :: ws.drop (k + 1)) := by rw [← split]
      rw [this]
      unfold owns
      rw [List.flatMap_append, List.flatMap_cons]
    have nd' := nd
    rw [os, List.nodup_append] at nd'
    obtain ⟨_, nd2, dj⟩ := nd'
    have ndw : w.own.Nodup := (List.nodup_append.mp nd2).1
    have out : ∀ x ∈ w.own, x ∉ owns (ws.take k) := fun x hx z => dj x z x (List.mem_append_left _ hx) rfl
    have keep : ∀ x ∈ w.own, H'' x = H x := fun x hx => hh x (out x hx)
    obtain ⟨r, rs, hr, us, hu⟩ := L.r
    obtain ⟨oq, hq⟩ := L.q
    have hqo : w.q ∉ owns (ws.take k) := fun z => by
      obtain ⟨w1, hw1, hx⟩ := List.mem_flatMap.mp z
      have L1 := lv w1 (List.mem_of_mem_take hw1)
      rcases List.mem_cons.mp hx with e | hx
      · rw [e, L1.a] at hq; cases hq
      rcases List.mem_cons.mp hx with e | hx
      · rw [e, L1.b] at hq; cases hq
      rcases List.mem_cons.mp hx with e | hx
      · rw [e, L1.c] at hq; cases hq
      · obtain ⟨us1, e1⟩ := L1.rl w.q hx
        rw [e1] at hq; cases hq
    have a0 : w.a ∈ w.own := List.mem_cons_self
    have b0 : w.b ∈ w.own := List.mem_cons_of_mem _ List.mem_cons_self
    have c0 : w.c ∈ w.own := List.mem_cons_of_mem _ (List.mem_cons_of_mem _ List.mem_cons_self)
    have r0 : r ∈ w.own := List.mem_cons_of_mem _ (List.mem_cons_of_mem _ (List.mem_cons_of_mem _ (by rw [hr]; exact List.mem_cons_self)))
    unfold WR.own at ndw
    rw [hr] at ndw
    simp only [List.nodup_cons, List.mem_cons, not_or] at ndw
    obtain ⟨⟨nab, nac, nar, _⟩, ⟨nbc, nbr, _⟩, ⟨ncr, _⟩, _⟩ := ndw
    refine ⟨w.q, [w.vn, .ref w.a, .ref w.b, .ref w.c], rfl, .inl (.inr ⟨oq, (hh w.q hqo).trans hq⟩), rfl, ht.ok rfl ?_⟩
    have ln : sg'.length = sg.length := ag.1
    have l1 : j1 < sg'.length := by rw [ln]; exact js j1 (by simp)
    have l2 : j2 < sg'.length := by rw [ln]; exact js j2 (by simp)
    have l3 : j3 < sg'.length := by rw [ln]; exact js j3 (by simp)
    have l4 : j4 < sg'.length := by rw [ln]; exact js j4 (by simp)
    simp only [List.nodup_cons, List.mem_cons, not_or, List.not_mem_nil, not_false_eq_true, and_true] at hd
    obtain ⟨⟨d12, d13, d14⟩, ⟨d23, d24⟩, d34, _⟩ := hd
    have sg2 : List.foldl (fun s p => List.set s p.1 (some p.2)) sg' ([j1, j2, j3, j4].zip [w.vn, V.ref w.a, V.ref w.b, V.ref w.c]) = (((sg'.set j1 (some w.vn)).set j2 (some (.ref w.a))).set j3 (some (.ref w.b))).set j4 (some (.ref w.c)) := rfl
    rw [sg2]
    refine ⟨w.a, w.as, w.vn, ?_, ?_, (keep _ a0).trans L.a, L.l, ?_⟩
    · rw [List.getElem?_set_ne (Ne.symm d24), List.getElem?_set_ne (Ne.symm d23), List.getElem?_set_self (by simpa using l2)]
    · rw [List.getElem?_set_ne (Ne.symm d14), List.getElem?_set_ne (Ne.symm d13), List.getElem?_set_ne (Ne.symm d12), List.getElem?_set_self l1]
    refine ⟨w.b, w.bs, ?_, ?_, ?_⟩
    · rw [List.getElem?_set_ne (Ne.symm d34), List.getElem?_set_self (by simpa using l3)]
    · rw [upd_ne (Ne.symm nab)]; exact (keep _ b0).trans L.b
    refine ⟨w.c, r, rs.map V.ref, us, ?_, ?_, ?_, ?_⟩
    · rw [List.getElem?_set_self (by simpa using l4)]
    · rw [upd_ne (Ne.symm nbc), upd_ne (Ne.symm nac)]
      have := (keep _ c0).trans L.c
      rw [hr] at this
      exact this
    · rw [upd_ne (Ne.symm nbr), upd_ne (Ne.symm nar)]; exact (keep _ r0).trans hu
    · refine ⟨?_, fun x hx => ?_⟩
      · exact ((((ag.set (by simp) _).set (by simp) _).set (by simp) _).set (by simp) _)
      · have ot : owns (ws.take (k + 1)) = owns (ws.take k) ++ w.own := by
          unfold owns
          rw [List.take_succ, List.getElem?_eq_getElem hk, hw, List.flatMap_append]
          simp
        rw [ot, List.mem_append, not_or] at hx
        have xo : ∀ z ∈ w.own, x ≠ z := fun z hz e => hx.2 (e ▸ hz)
        rw [upd_ne (xo r r0), upd_ne (xo _ b0), upd_ne (xo _ a0)]
        exact hh x hx.1
  · rw [List.length_map, List.take_length] at hh
    exact q sg' H' ag hh
end
theorem Slots.of {K : KFr} {H0 B H : Hp} : ∀ {ms : List Md} {xs : List (Option V)} {ds : List D}, xs.length = ms.length → ds.length = ms.length → (∀ (i : Nat) m x d, ms[i]? = some m → xs[i]? = some x → ds[i]? = some d → Slot K H0 B H m x d) → Slots K H0 B H ms xs ds
  | [], [], [], _, _, _ => trivial
  | [], _ :: _, _, h, _, _ => by cases h
  | [], [], _ :: _, _, h, _ => by cases h
  | _ :: _, [], _, h, _, _ => by cases h
  | _ :: _, _ :: _, [], _, h, _ => by cases h
  | _ :: _, _ :: _, _ :: _, h1, h2, h => ⟨h 0 _ _ _ rfl rfl rfl, Slots.of (Nat.succ.inj h1) (Nat.succ.inj h2) fun i m x d a b c => h (i + 1) m x d (by simpa using a) (by simpa using b) (by simpa using c)⟩
def unJs : List Nat → List Md → List Md
  | [], G => G
  | j :: js, G => (unJs js G).set j .un
theorem unJs_len : ∀ (js : List Nat) (G : List Md), (unJs js G).length = G.length
  | [], _ => rfl
  | _ :: js, G => by rw [unJs, List.length_set, unJs_len js G]
theorem unJs_get {G : List Md} {i : Nat} {m : Md} : ∀ {js : List Nat}, (unJs js G)[i]? = some m → m = .un ∨ (i ∉ js ∧ G[i]? = some m)
  | [], h => .inr ⟨(fun z => nomatch z), h⟩
  | j :: js, h => by
    by_cases e : j = i
    · subst e
      have h : ((unJs js G).set j .un)[j]? = some m := h
      rw [List.getElem?_set] at h
      simp only [if_true] at h
      split at h
      · exact .inl (Option.some.inj h).symm
      · cases h
    · have h : ((unJs js G).set j .un)[i]? = some m := h
      rw [List.getElem?_set_ne e] at h
      rcases unJs_get h with h | ⟨h1, h2⟩
      · exact .inl h
      · exact .inr ⟨fun z => by
          rcases List.mem_cons.mp z with z | z
          · exact e z.symm
          · exact h1 z, h2⟩
section
variable {X : Cx} {G3 G' : List Md} {G2 : V → List Md} {W : WX} {rm : Rm} {st s2 : Stmt} {rest : List Stmt} {g : List D → R Fl} {i : Nat} {js : List Nat}
theorem vs2_tear (h1 : PS X st (tTear i js)) (h2 : PS X s2 (tClr i)) (h3 : PSs X rest (vS (kf X) X.mg G3 G' W rm g)) (hG3 : ∀ w, G3 = unJs js ((G2 w).map imU) := by intro _; rfl) (hij : i ∉ js := by decide) (hl : ∀ w, js.all (fun j => decide (j < (G2 w).length)) = true := by intro _; rfl) : PSs X (st :: s2 :: rest) (vS2 (kf X) X.mg i G2 G' W rm g) := by
  refine pss_weak (pss_cons h1 (pss_cons h2 h3)) fun Dn sg H ⟨p, ws, ds, B0, H0, B1, H1, B, e, x, T, to, gi, S, k⟩ => ?_
  have T2 := T.mono S.ext.b S.ext.h S.ext.n
  obtain ⟨v, d, q1, q2, q3⟩ := S.sl.get gi
  cases v with
  | none => exact q3.elim
  | some v =>
    obtain ⟨_, rfl⟩ := q3
    refine ⟨p, ws, q1, T2.hp, T2.np, T2.nd, T2.lives S.ext.s to, fun j hj => by rw [S.sl.len.1]; exact of_decide_eq_true (List.all_eq_true.mp (hl _) j hj), fun sg' H' ag off => ?_⟩
    refine ⟨p, _, by rw [ag.2 i hij]; exact q1, (off p T2.np).trans T2.hp, B0, H0, B, e, ?_, k⟩
    have same : ∀ a, a ∉ owns ws → a ≠ p → (upd H' p (.lst [])) a = H a := fun a h1 h2 => by rw [upd_ne h2]; exact off a h1
    have ex : Ext B0 H0 B (upd H' p (.lst [])) := by
      refine ⟨x.b.trans S.ext.b, fun a o h => ?_, fun a o h => ?_, fun a h => ?_⟩
      · rw [same a (fun z => by rw [(T2.fr a z).1] at h; cases h) (fun z => by rw [z, T2.z] at h; cases h)]
        exact S.ext.h _ _ (x.h _ _ h)
      · rw [same a (fun z => by rw [(T2.fr a z).2] at h; cases h) (fun z => by rw [z, T2.b] at h; cases h)]
        exact S.ext.s _ _ h
      · exact (S.ext.n a (Same.live x.h h)).trans (x.n a h)
    have SU := S.imU ex
    refine ⟨ex, Slots.of ?_ ?_ fun n m y d a b c => ?_, fun a b m n v w q g1 o1 => ?_⟩
    · rw [hG3 (.ref p), unJs_len, List.length_map, ag.1]; exact S.sl.len.1
    · rw [hG3 (.ref p), unJs_len, List.length_map]; exact S.sl.len.2
    · rw [hG3 (.ref p)] at a
      rcases unJs_get a with a | ⟨a1, a2⟩
      · subst a; trivial
      · obtain ⟨y', d', z1, z2, z3⟩ := SU.sl.get a2
        rw [ag.2 n a1, z1] at b
        rw [z2] at c
        cases b; cases c
        exact z3
    · rw [hG3 (.ref p)] at g1
      rcases unJs_get g1 with z | ⟨_, z⟩
      · subst z; cases o1
      · exact (imU_no z o1).elim
end
end L2.VL
set_option Elab.async false
set_option linter.all false
set_option maxRecDepth 100000
set_option maxHeartbeats 4000000
namespace L2.VL
open PySem PySem.Spec PyProof.Rows
def C_copied : List D → R D := eComp (iLst (eVar 0)) (tgTup [1, 2, 3, 4]) tTrue (gRow (eVar 1) (eAsL .im (eVar 2)) (eAsL .im (eVar 3)) (eComp (iLst (eVar 4)) (tgName 5) tTrue (eAsL .im (eVar 5))))
def MT_copied : List D → R D := runT 6 C_copied
abbrev TRow := Str × List Str × List Str × List (List Int)
abbrev eRow : TRow → D := e4 D.str (eL D.str) (eL D.str) (eL (eL D.int))
def tearRow (r : TRow) : Prop := r.2.1.length < sizeLine ∧ r.2.2.2 ≠ [] ∧ r.2.2.2.length ≤ sizeLine
instance (r : TRow) : Decidable (tearRow r) := by unfold tearRow; infer_instance
def tearN (rows : List TRow) : R (List TRow) := if rows.length ≤ sizeLine ∧ ∀ r ∈ rows, tearRow r then .ok rows else .bad
theorem asL_im (f : List D → R D) (e : List D) (ds : List D) (h : f e = .ok (.lst ds)) : eAsL .im f e = .ok (.lst ds) := by
  unfold eAsL
  rw [h, R.bind_ok, asL_lst]
  rfl
theorem allLst_map {α : Type} (f : α → D) : ∀ l : List (List α), allLst (l.map (eL f)) = true
  | [] => rfl
  | _ :: l => allLst_map f l
theorem inner_ok {e : List D} (h : e[4]? = some (.lst ds)) (h5 : 5 < e.length) (hl : ∀ d ∈ ds, ∃ us, d = .lst us) (hz : ds.length ≤ sizeLine) : eComp (iLst (eVar 4)) (tgName 5) tTrue (eAsL .im (eVar 5)) e = .ok (.lst ds) := by
  have go : ∀ l : List D, (∀ d ∈ l, ∃ us, d = .lst us) → compL (tgName 5) tTrue (eAsL .im (eVar 5)) e l = .ok l := by
    intro l
    induction l with
    | nil => intro _; rfl
    | cons d l ih =>
      intro hl
      obtain ⟨us, rfl⟩ := hl d List.mem_cons_self
      unfold compL
      have h1 : tgName 5 (.lst us) e = some (e.set 5 (.lst us)) := rfl
      rw [h1, ofO_some, R.bind_ok]
      have h2 : eAsL .im (eVar 5) (e.set 5 (.lst us)) = .ok (.lst us) := asL_im _ _ us (by show ofO _ = _; rw [List.getElem?_set_self h5]; rfl)
      show (noX (R.ok true)).bind _ = _
      rw [noX_ok, R.bind_ok, if_pos rfl, h2, noX_ok, R.bind_ok, ih fun d hd => hl d (List.mem_cons_of_mem _ hd)]
      rfl
  unfold eComp iLst
  have h0 : eVar 4 e = .ok (.lst ds) := by show ofO _ = _; rw [h]; rfl
  rw [h0, R.bind_ok]
  show (R.ok ds).bind _ = _
  rw [R.bind_ok, go ds hl, R.bind_ok, fitL_eq, if_pos hz]
theorem gRow_ok {e : List D} {r : TRow} (hr : tearRow r) (h1 : e[1]? = some (.str r.1)) (h2 : e[2]? = some (eL D.str r.2.1)) (h3 : e[3]? = some (eL D.str r.2.2.1)) (h4 : e[4]? = some (eL (eL D.int) r.2.2.2)) (h5 : 5 < e.length) :
    gRow (eVar 1) (eAsL .im (eVar 2)) (eAsL .im (eVar 3)) (eComp (iLst (eVar 4)) (tgName 5) tTrue (eAsL .im (eVar 5))) e = .ok (eRow r) := by
  unfold gRow
  have a1 : eVar 1 e = .ok (.str r.1) := by show ofO _ = _; rw [h1]; rfl
  have a2 : eAsL .im (eVar 2) e = .ok (eL D.str r.2.1) := asL_im _ _ _ (by show ofO _ = _; rw [h2]; rfl)
  have a3 : eAsL .im (eVar 3) e = .ok (eL D.str r.2.2.1) := asL_im _ _ _ (by show ofO _ = _; rw [h3]; rfl)
  have a4 : eComp (iLst (eVar 4)) (tgName 5) tTrue (eAsL .im (eVar 5)) e = .ok (eL (eL D.int) r.2.2.2) := inner_ok h4 h5 (fun d hd => by
    obtain ⟨l, _, rfl⟩ := List.mem_map.mp hd
    exact ⟨_, rfl⟩) (by rw [List.length_map]; exact hr.2.2)
  rw [a1, R.bind_ok, a2, R.bind_ok, a3, R.bind_ok, a4, R.bind_ok]
  show (if allLst _ then _ else _) = _
  rw [if_pos (allLst_map _ _)]
theorem copied_ok {rows : List TRow} (h1 : rows.length ≤ sizeLine) (h2 : ∀ r ∈ rows, tearRow r) : MT_copied [eL eRow rows] = .ok (eL eRow rows) := by
  show C_copied [eL eRow rows, .non, .non, .non, .non, .non] = _
  generalize hx : eL eRow rows = x
  have go : ∀ l : List TRow, (∀ r ∈ l, tearRow r) → compL (tgTup [1, 2, 3, 4]) tTrue (gRow (eVar 1) (eAsL .im (eVar 2)) (eAsL .im (eVar 3)) (eComp (iLst (eVar 4)) (tgName 5) tTrue (eAsL .im (eVar 5)))) [x, .non, .non, .non, .non, .non] (l.map eRow) = .ok (l.map eRow) := by
    intro l
    induction l with
    | nil => intro _; rfl
    | cons r l ih =>
      intro hl
      rw [List.map_cons]
      unfold compL
      have t1 : tgTup [1, 2, 3, 4] (eRow r) [x, .non, .non, .non, .non, .non] = some [x, .str r.1, eL D.str r.2.1, eL D.str r.2.2.1, eL (eL D.int) r.2.2.2, .non] := rfl
      rw [t1, ofO_some, R.bind_ok]
      show (noX (R.ok true)).bind _ = _
      rw [noX_ok, R.bind_ok, if_pos rfl, gRow_ok (hl r List.mem_cons_self) rfl rfl rfl rfl (by show 5 < 6; omega), noX_ok, R.bind_ok, ih fun r hr => hl r (List.mem_cons_of_mem _ hr)]
      rfl
  have h0 : eVar 0 [x, .non, .non, .non, .non, .non] = .ok x := rfl
  have h1' : iLst (eVar 0) [x, .non, .non, .non, .non, .non] = .ok (rows.map eRow) := by
    show (eVar 0 _).bind lstOf = _
    rw [h0, ← hx]
    rfl
  show (iLst (eVar 0) _).bind (fun ds => (compL _ _ _ _ ds).bind fitL) = _
  rw [h1', R.bind_ok, go rows h2, R.bind_ok, fitL_eq, if_pos (by rw [List.length_map]; exact h1), ← hx]
theorem tearOk_map : ∀ {rows : List TRow}, (∀ r ∈ rows, tearRow r) → tearOk (rows.map eRow) = true
  | [], _ => rfl
  | r :: rows, h => by
    obtain ⟨n, vs, es, t⟩ := r
    obtain ⟨h1, h2, _⟩ := h _ List.mem_cons_self
    cases t with
    | nil => exact absurd rfl h2
    | cons t ts =>
      show (decide ((vs.map D.str).length < sizeLine) && tearOk (rows.map eRow)) = true
      rw [tearOk_map fun r hr => h r (List.mem_cons_of_mem _ hr), Bool.and_true, List.length_map]
      exact decide_eq_true h1
theorem sn_tear {p : Pat} {i : Nat} {fa : List D → R D} {rows : List TRow} {P : List TRow → Pat} (ha : SP p fa (eL eRow rows)) (hP : ∀ x, PLe (P x) (p.set i (some (eL eRow x)))) : SN p (sAsgT i MT_copied fa) (tearN rows) P := fun e he => by
  unfold sAsgT tearN
  rw [ha e he, R.bind_ok]
  by_cases h : rows.length ≤ sizeLine ∧ ∀ r ∈ rows, tearRow r
  · rw [if_pos h, copied_ok h.1 h.2, R.bind_ok]
    refine .inr (.inr ⟨rows, e.set i (eL eRow rows), rfl, ?_, EM.le (hP rows) (he.set i)⟩)
    show (if tearOk (rows.map eRow) then R.ok (D.lst (rows.map eRow)) else .bad).bind _ = _
    rw [if_pos (tearOk_map h.2)]
    rfl
  · rw [if_neg h]; exact .inl rfl
end L2.VL
set_option Elab.async false
set_option linter.all false
set_option maxRecDepth 100000
set_option maxHeartbeats 4000000
set_option synthInstance.maxSize 1000
set_option synthInstance.maxHeartbeats 400000
namespace OD
open PySem PySem.Spec PyProof.Rows L2 L2.VL
def szF (vss : List (List Str)) : Nat := vss.foldl (fun n v => n * v.length) 1
structure NG (net : List NE) : Prop where
  one : 1 ≤ net.length
  len : net.length ≤ 10
  nd : (net.map (·.1)).Nodup
  wn : ∀ e ∈ net, isW e.1 = true
  sz : ∀ e ∈ net, 2 ≤ e.2.1.length ∧ e.2.1.length ≤ 4
  vw : ∀ e ∈ net, ∀ v ∈ e.2.1, isW v = true
  vn : ∀ e ∈ net, e.2.1.Nodup
  el : ∀ (k : Nat) (e : NE), net[k]? = some e → ∀ x ∈ e.2.2.1, x ∈ (net.take k).map (·.1)
  e3 : ∀ e ∈ net, e.2.2.1.length ≤ 3 ∧ e.2.2.1.Nodup
  tl : ∀ e ∈ net, (e.2.2.2.2.length : Int) = choicesF net e.2.2.1
  tr : ∀ e ∈ net, ∀ row ∈ e.2.2.2.2, row.length = e.2.1.length ∧ (∀ x ∈ row, 0 ≤ x) ∧ row.sum = e.2.2.2.1
  mn : ∀ e ∈ net, 1 ≤ e.2.2.2.1 ∧ e.2.2.2.1 ≤ 1000000000
  ws : szF (net.map (·.2.1)) ≤ 4096
theorem valsOf_take {net : List NE} {k : Nat} {x : Str} (h : x ∈ (net.take k).map (·.1)) : valsOf (net.take k) x = valsOf net x := by
  obtain ⟨e, _, _, hf⟩ := find_mem h
  unfold valsOf
  have e2 : net.find? (fun e => decide (e.1 = x)) = some e := by
    conv => lhs; rw [← List.take_append_drop k net]
    rw [List.find?_append, hf]
    rfl
  rw [hf, e2]
theorem sz_foldl : ∀ (vss : List (List Str)) (n : Nat), vss.foldl (fun n v => n * v.length) n = n * szF vss
  | [], n => by simp [szF]
  | v :: vss, n => by
    unfold szF
    rw [List.foldl_cons, List.foldl_cons, sz_foldl vss, sz_foldl vss]
    rw [Nat.one_mul, Nat.mul_assoc]
theorem szF_cons (v : List Str) (vss : List (List Str)) : szF (v :: vss) = v.length * szF vss := by
  show vss.foldl _ (1 * v.length) = _
  rw [sz_foldl, Nat.one_mul]
theorem ways_sz (rows : List NRow) : ∀ w : Int, waysF w rows = w * (szF ((rows.map dueE).map (·.2.1)) : Int) := by
  induction rows with
  | nil => intro w; simp [waysF, szF]
  | cons r rs ih =>
    intro w
    show waysF (w * (r.2.1.length : Int)) rs = _
    rw [ih, List.map_cons, List.map_cons, szF_cons]
    show _ = w * ((r.2.1.length * _ : Nat) : Int)
    rw [Int.natCast_mul, Int.mul_assoc]
theorem tabOk_iff5 {t : List (List Int)} {ch sz : Int} : tabOk t ch sz = true ↔ (t.length : Int) = ch ∧ (∀ row ∈ t, (row.length : Int) = sz ∧ (∀ x ∈ row, 0 ≤ x) ∧ row.sum = (t.headD []).sum) ∧ 1 ≤ (t.headD []).sum ∧ (t.headD []).sum ≤ 1000000000 := by
  unfold tabOk rowOk
  simp only [Bool.and_eq_true, decide_eq_true_iff, List.all_eq_true]
  constructor
  · exact fun ⟨⟨⟨a, b⟩, c⟩, d⟩ => ⟨a, fun row hr => ⟨(b row hr).1.1, (b row hr).1.2, (b row hr).2⟩, c, d⟩
  · exact fun ⟨a, b, c, d⟩ => ⟨⟨⟨a, fun row hr => ⟨⟨(b row hr).1, (b row hr).2.1⟩, (b row hr).2.2⟩⟩, c⟩, d⟩
theorem choicesF_take {net : List NE} {k : Nat} {es : List Str} (h : ∀ x ∈ es, x ∈ (net.take k).map (·.1)) : choicesF (net.take k) es = choicesF net es := by
  have go : ∀ (es : List Str) (c : Int), (∀ x ∈ es, x ∈ (net.take k).map (·.1)) → es.foldl (fun c e => c * ((valsOf (net.take k) e).length : Int)) c = es.foldl (fun c e => c * ((valsOf net e).length : Int)) c := by
    intro es
    induction es with
    | nil => intro c _; rfl
    | cons x es ih =>
      intro c h
      rw [List.foldl_cons, List.foldl_cons, valsOf_take (h x (by simp))]
      exact ih _ fun y hy => h y (List.mem_cons_of_mem _ hy)
  exact go es 1 h
theorem NG.of {rows : List NRow} (h : GoodL rows) (h1 : 1 ≤ rows.length) (hl : rows.length ≤ 10) : NG (rows.map dueE) := by
  have gr : ∀ e ∈ rows.map dueE, ∃ (k : Nat) (r : NRow), rows[k]? = some r ∧ e = dueE r ∧ GoodR ((rows.take k).map dueE) (waysF 1 (rows.take k)) r := fun e he => by
    obtain ⟨r, hr, rfl⟩ := List.mem_map.mp he
    obtain ⟨k, hk⟩ := List.getElem?_of_mem hr
    exact ⟨k, r, hk, rfl, (h k r hk).1⟩
  have el : ∀ (k : Nat) (e : NE), (rows.map dueE)[k]? = some e → ∀ x ∈ e.2.2.1, x ∈ ((rows.map dueE).take k).map (·.1) := fun k e hk x hx => by
    rw [List.getElem?_map] at hk
    cases hr : rows[k]? with
    | none => rw [hr] at hk; cases hk
    | some r =>
      rw [hr] at hk
      cases hk
      have := List.all_eq_true.mp (h k r hr).1.em x hx
      rw [← List.map_take]
      simpa using this
  have nd : ((rows.map dueE).map (·.1)).Nodup := by
    have go : ∀ k, k ≤ rows.length → (((rows.take k).map dueE).map (·.1)).Nodup := by
      intro k
      induction k with
      | zero => intro _; simp
      | succ k ih =>
        intro hk
        have hk' : k < rows.length := by omega
        rw [List.take_succ, List.getElem?_eq_getElem hk', Option.toList_some, List.map_append, List.map_append]
        refine List.nodup_append.mpr ⟨ih (by omega), by simp, fun a ha b hb e => ?_⟩
        have e2 : b = rows[k].1 := by simpa [dueE] using hb
        rw [e, e2] at ha
        exact (h k rows[k] (List.getElem?_eq_getElem hk')).1.new ha
    have z := go rows.length (Nat.le_refl _)
    rw [List.take_length] at z
    exact z
  refine ⟨by rw [List.length_map]; exact h1, by rw [List.length_map]; exact hl, nd, fun e he => ?_, fun e he => ?_, fun e he v hv => ?_, fun e he => ?_, el, fun e he => ?_, fun e he => ?_, fun e he row hr => ?_, fun e he => ?_, ?_⟩
  · obtain ⟨k, r, hk, rfl, g⟩ := gr e he; exact g.nm
  · obtain ⟨k, r, hk, rfl, g⟩ := gr e he; exact g.vl
  · obtain ⟨k, r, hk, rfl, g⟩ := gr e he; exact List.all_eq_true.mp g.vw v hv
  · obtain ⟨k, r, hk, rfl, g⟩ := gr e he; exact g.vn
  · obtain ⟨k, r, hk, rfl, g⟩ := gr e he; exact ⟨g.el, g.en⟩
  · obtain ⟨k, r, hk, rfl, g⟩ := gr e he
    have z := (tabOk_iff5.mp g.tb).1
    have hx := el k (dueE r) (by rw [List.getElem?_map, hk]; rfl)
    rw [List.map_take] at z
    rw [choicesF_take (es := r.2.2.1) hx] at z
    exact z
  · obtain ⟨k, r, hk, rfl, g⟩ := gr e he
    obtain ⟨a, b, c⟩ := (tabOk_iff5.mp g.tb).2.1 row hr
    exact ⟨by exact_mod_cast a, b, c⟩
  · obtain ⟨k, r, hk, rfl, g⟩ := gr e he
    exact (tabOk_iff5.mp g.tb).2.2
  · have hk : rows.length - 1 < rows.length := by omega
    have g := (h _ _ (List.getElem?_eq_getElem hk)).1
    have z : waysF 1 rows ≤ 4096 := by
      have e : rows = rows.take (rows.length - 1) ++ [rows[rows.length - 1]] := by
        conv => lhs; rw [← List.take_append_drop (rows.length - 1) rows]
        rw [List.drop_eq_getElem_cons hk, show rows.length - 1 + 1 = rows.length by omega, List.drop_length]
      conv => lhs; rw [e]
      rw [waysF_snoc]
      exact g.ws
    rw [ways_sz, Int.one_mul] at z
    exact_mod_cast z
def rowF (net : List NE) (lk : Str → Str) (es : List Str) : Nat := es.foldl (fun r x => r * (valsOf net x).length + (valsOf net x).idxOf (lk x)) 0
end OD
set_option Elab.async false
set_option linter.all false
set_option maxRecDepth 100000
set_option maxHeartbeats 4000000
set_option synthInstance.maxSize 1000
set_option synthInstance.maxHeartbeats 400000
namespace OD
open PySem PySem.Spec PyProof.Rows L2 L2.VL
abbrev NT := List Str × List Int
end OD
set_option Elab.async false
set_option linter.all false
set_option maxRecDepth 100000
set_option maxHeartbeats 4000000
set_option synthInstance.maxSize 1000
set_option synthInstance.maxHeartbeats 400000
namespace OD
open PySem PySem.Spec PyProof.Rows L2 L2.VL
end OD
set_option Elab.async false
set_option linter.all false
set_option maxRecDepth 100000
set_option maxHeartbeats 4000000
set_option synthInstance.maxSize 1000
set_option synthInstance.maxHeartbeats 400000
namespace OD
open PySem PySem.Spec PyProof.Rows L2 L2.VL
def G_whole : List D → R Fl := (sSeq (sAsg 1 (eC (.int 1))) (sSeq (sFor (iTupl (eVar 0)) (tgName 2) (sAug 1 gMul (eIx (eVar 2) (eC (.int 3))))) (sRet (eVar 1))))
def M_whole : List D → R D := runF 3 (G_whole)
def T_whole_b1  (s1 : Int) (a2 : (Str × (List Str) × (List Str) × Int × (List (List Int)))) : R Int := (((R.ok a2.2.2.2.1).bind fun x => mulR s1 x).bind fun (v_total : Int) => R.ok v_total)
def T_whole (v_net : (List (Str × (List Str) × (List Str) × Int × (List (List Int))))) : R Int := ((R.ok (1 : Int)).bind fun (v_total : Int) => (((R.ok v_net).bind fun l => foldR T_whole_b1 l v_total).bind fun (v_total : Int) => (R.ok v_total)))
theorem sim_whole (v_net : (List (Str × (List Str) × (List Str) × Int × (List (List Int))))) : Ref (M_whole [(eT (e5 D.str (eT D.str) (eT D.str) D.int (eT (eT D.int)))) v_net]) ((T_whole v_net).map D.int) := by
  unfold M_whole
  exact run_x (n := 3) (p := [some ((eT (e5 D.str (eT D.str) (eT D.str) D.int (eT (eT D.int)))) v_net), none, none]) (by unfold G_whole T_whole; exact (sx_seq (sn_asg (i := 1) (ea := D.int) (P := fun (v_total : Int) => [some ((eT (e5 D.str (eT D.str) (eT D.str) D.int (eT (eT D.int)))) v_net), some (D.int v_total), none]) (by exact (SP.se (ea := D.int) (x := (1 : Int)) sp_c))) (fun (v_total : Int) => (sx_seq (sn_for (P := fun (s1 : Int) => [some ((eT (e5 D.str (eT D.str) (eT D.str) D.int (eT (eT D.int)))) v_net), some (D.int s1), none]) (Pt := fun (s1 : Int) (a2 : (Str × (List Str) × (List Str) × Int × (List (List Int)))) => [some ((eT (e5 D.str (eT D.str) (eT D.str) D.int (eT (eT D.int)))) v_net), some (D.int s1), some ((e5 D.str (eT D.str) (eT D.str) D.int (eT (eT D.int))) a2)]) (st := T_whole_b1) v_total (si_tup (ea := (e5 D.str (eT D.str) (eT D.str) D.int (eT (eT D.int)))) (SP.se (ea := (eT (e5 D.str (eT D.str) (eT D.str) D.int (eT (eT D.int))))) (x := v_net) (sp_var (i := 0)))) (by exact And.intro rfl (And.intro rfl (trivial))) (fun _ => tg_name) (fun s1 a2 => by unfold T_whole_b1; exact (sn_yield (P := fun (s1 : Int) => [some ((eT (e5 D.str (eT D.str) (eT D.str) D.int (eT (eT D.int)))) v_net), some (D.int s1), none]) (sn_aug (i := 1) (eb := D.int) (h := fun x => mulR s1 x) (P := fun (v_total : Int) => [some ((eT (e5 D.str (eT D.str) (eT D.str) D.int (eT (eT D.int)))) v_net), some (D.int v_total), some ((e5 D.str (eT D.str) (eT D.str) D.int (eT (eT D.int))) a2)]) rfl (by exact (SP.se (ea := D.int) (x := a2.2.2.2.1) (sp_ix (d := D.int a2.2.2.2.1) rfl (sp_var (i := 2)) sp_c))) (fun x => k_mul s1 x)) (fun (v_total : Int) => v_total) (fun (v_total : Int) => by exact And.intro rfl (And.intro rfl (trivial)))))) (fun (v_total : Int) => (sx_ret (by exact (SP.se (ea := D.int) (x := v_total) (sp_var (i := 1)))))))))) (And.intro rfl (trivial))
def manyF (es : List NE) : Int := es.foldl (fun p e => p * e.2.2.2.1) 1
theorem T_whole_eq {net : List NE} (g : NG net) : T_whole net = .ok (manyF net) := by
  unfold T_whole
  rw [R.bind_ok, R.bind_ok, foldR_eq (g := fun p e => p * e.2.2.2.1) net 1 fun s e he => ?_]
  · rfl
  · have m1 := g.mn e he
    unfold T_whole_b1
    rw [R.bind_ok, mulR_ok (mulOk_right (by omega) (by omega))]
    rfl
end OD
set_option Elab.async false
set_option linter.all false
set_option maxRecDepth 100000
set_option maxHeartbeats 4000000
set_option synthInstance.maxSize 1000
set_option synthInstance.maxHeartbeats 400000
namespace OD
open PySem PySem.Spec PyProof.Rows L2 L2.VL
end OD
set_option Elab.async false
set_option linter.all false
set_option maxRecDepth 100000
set_option maxHeartbeats 4000000
set_option synthInstance.maxSize 1000
set_option synthInstance.maxHeartbeats 400000
namespace OD
open PySem PySem.Spec PyProof.Rows L2 L2.VL
abbrev LK := Str → Str
def vl (net : List NE) (t : NT) (lk : LK) : Int := t.2.getD (rowF net lk t.1) 0
end OD
set_option Elab.async false
set_option linter.all false
set_option maxRecDepth 100000
set_option maxHeartbeats 4000000
set_option synthInstance.maxSize 1000
set_option synthInstance.maxHeartbeats 400000
namespace OD
open PySem PySem.Spec PyProof.Rows L2 L2.VL
end OD
set_option Elab.async false
set_option linter.all false
set_option maxRecDepth 100000
set_option maxHeartbeats 4000000
set_option synthInstance.maxSize 1000
set_option synthInstance.maxHeartbeats 400000
namespace OD
open PySem PySem.Spec PyProof.Rows L2 L2.VL
end OD
set_option Elab.async false
set_option linter.all false
set_option maxRecDepth 100000
set_option maxHeartbeats 4000000
set_option synthInstance.maxSize 1000
set_option synthInstance.maxHeartbeats 400000
namespace OD
open PySem PySem.Spec PyProof.Rows L2 L2.VL
end OD
set_option Elab.async false
set_option linter.all false
set_option maxRecDepth 100000
set_option maxHeartbeats 4000000
set_option synthInstance.maxSize 1000
set_option synthInstance.maxHeartbeats 400000
namespace OD
open PySem PySem.Spec PyProof.Rows L2 L2.VL
theorem bnd_ok {α β : Type} (a : α) (f : α → R β) : (R.ok a).bind f = f a := id (R.bind_ok a f)
theorem bnd_ex {α β : Type} (c : Str) (f : α → R β) : (R.ex c : R α).bind f = .ex c := id (R.bind_ex c f)
theorem ifT {α : Type} (a b : α) : (if true = true then a else b) = a := id (if_pos rfl)
theorem ifF {α : Type} (a b : α) : (if false = true then a else b) = b := id (if_neg Bool.false_ne_true)
theorem thx_nx {σ β : Type} (a : σ) (f : σ → R β) : (TF.nx a : TF σ β).thx f = f a := id rfl
theorem thx_rt {σ β : Type} (a : β) (f : σ → R β) : (TF.rt a : TF σ β).thx f = .ok a := id rfl
theorem thn_nx {σ τ β : Type} (a : σ) (f : σ → R (TF τ β)) : (TF.nx a : TF σ β).thn f = f a := id rfl
theorem thn_rt {σ τ β : Type} (a : β) (f : σ → R (TF τ β)) : (TF.rt a : TF σ β).thn f = .ok (.rt a) := id rfl
theorem opt_n {α β : Type} (x : R β) (f : α → R β) : optR (none : Option α) x f = x := id rfl
theorem opt_s {α β : Type} (a : α) (x : R β) (f : α → R β) : optR (some a) x f = f a := id rfl
theorem dec_self {α : Type} [DecidableEq α] (a : α) : decide (a = a) = true := decide_eq_true rfl
theorem dec_True : decide True = true := id rfl
theorem dec_False : decide False = false := id rfl
theorem not_t : (!true) = false := id rfl
theorem not_f : (!false) = true := id rfl
theorem or_t (b : Bool) : (true || b) = true := id rfl
theorem or_f (b : Bool) : (false || b) = b := id rfl
theorem and_t (b : Bool) : (true && b) = b := id rfl
theorem and_f (b : Bool) : (false && b) = false := id rfl
theorem noX_ok {α : Type} (a : α) : noX (R.ok a) = .ok a := id rfl
theorem try_ok {α : Type} (cs : List Str) (a : α) (f : Str → R α) : tryT cs (.ok a) f = .ok a := id rfl
theorem iteT_ {α : Type} {i : Decidable True} (a b : α) : @ite α True i a b = a := if_pos trivial
theorem iteF_ {α : Type} {i : Decidable False} (a b : α) : @ite α False i a b = b := if_neg (fun h => h)
end OD
set_option Elab.async false
set_option linter.all false
set_option maxRecDepth 100000
set_option maxHeartbeats 4000000
set_option synthInstance.maxSize 1000
set_option synthInstance.maxHeartbeats 400000
namespace OD
open PySem PySem.Spec PyProof.Rows L2 L2.VL
end OD
set_option Elab.async false
set_option linter.all false
set_option maxRecDepth 100000
set_option maxHeartbeats 4000000
set_option synthInstance.maxSize 1000
set_option synthInstance.maxHeartbeats 400000
namespace OD
open PySem PySem.Spec PyProof.Rows L2 L2.VL
end OD
set_option Elab.async false
set_option linter.all false
set_option maxRecDepth 100000
set_option maxHeartbeats 4000000
set_option synthInstance.maxSize 1000
set_option synthInstance.maxHeartbeats 400000
namespace OD
open PySem PySem.Spec PyProof.Rows L2 L2.VL
end OD
set_option Elab.async false
set_option linter.all false
set_option maxRecDepth 100000
set_option maxHeartbeats 4000000
set_option synthInstance.maxSize 1000
set_option synthInstance.maxHeartbeats 400000
namespace OD
open PySem PySem.Spec PyProof.Rows L2 L2.VL
end OD
set_option Elab.async false
set_option linter.all false
set_option maxRecDepth 100000
set_option maxHeartbeats 4000000
set_option synthInstance.maxSize 1000
set_option synthInstance.maxHeartbeats 400000
namespace OD
open PySem PySem.Spec PyProof.Rows L2 L2.VL
end OD
set_option Elab.async false
set_option linter.all false
set_option maxRecDepth 100000
set_option maxHeartbeats 4000000
set_option synthInstance.maxSize 1000
set_option synthInstance.maxHeartbeats 400000
namespace OD
open PySem PySem.Spec PyProof.Rows L2 L2.VL
end OD
set_option Elab.async false
set_option linter.all false
set_option maxRecDepth 100000
set_option maxHeartbeats 4000000
set_option synthInstance.maxSize 1000
set_option synthInstance.maxHeartbeats 400000
namespace OD.Q
open PySem PySem.Spec PyProof.Rows L2 L2.VL
end OD.Q
set_option Elab.async false
set_option linter.all false
set_option maxRecDepth 100000
set_option maxHeartbeats 4000000
set_option synthInstance.maxSize 1000
set_option synthInstance.maxHeartbeats 400000
namespace OD.Q
open PySem PySem.Spec PyProof.Rows L2 L2.VL
end OD.Q
set_option Elab.async false
set_option linter.all false
set_option maxRecDepth 100000
set_option maxHeartbeats 4000000
set_option synthInstance.maxSize 1000
set_option synthInstance.maxHeartbeats 400000
namespace OD.Q
open PySem PySem.Spec PyProof.Rows L2 L2.VL
end OD.Q
set_option Elab.async false
set_option linter.all false
set_option maxRecDepth 100000
set_option maxHeartbeats 4000000
set_option synthInstance.maxSize 1000
set_option synthInstance.maxHeartbeats 400000
namespace OD
open PySem PySem.Spec PyProof.Rows L2 L2.VL
end OD
set_option Elab.async false
set_option linter.all false
set_option maxRecDepth 100000
set_option maxHeartbeats 4000000
set_option synthInstance.maxSize 1000
set_option synthInstance.maxHeartbeats 400000
namespace OD.Q
open PySem PySem.Spec PyProof.Rows L2 L2.VL
end OD.Q
set_option Elab.async false
set_option linter.all false
set_option maxRecDepth 100000
set_option maxHeartbeats 4000000
set_option synthInstance.maxSize 1000
set_option synthInstance.maxHeartbeats 400000
namespace OD
open PySem PySem.Spec PyProof.Rows L2 L2.VL
def topS (i : Nat) : Stmt := PySem.Challenge.pw_oddsnet_k11_a_net_made.main.body.getD i (.Pass ⟨0, 0, 0, 0⟩)
abbrev s_is_word : Stmt := topS 13
abbrev s_names_of : Stmt := topS 14
abbrev s_entry_of : Stmt := topS 15
abbrev s_values_of : Stmt := topS 16
abbrev s_whole : Stmt := topS 17
abbrev s_once_each : Stmt := topS 18
abbrev s_look_at_values : Stmt := topS 19
abbrev s_look_at_elders : Stmt := topS 20
abbrev s_many_of : Stmt := topS 21
abbrev s_made : Stmt := topS 22
abbrev s_law_cell : Stmt := topS 24
abbrev s_law_words : Stmt := topS 25
abbrev s_law_cuts : Stmt := topS 26
abbrev s_law_shape : Stmt := topS 27
abbrev s_law_rows : Stmt := topS 28
abbrev s_law_copied : Stmt := topS 29
abbrev s_law_alike : Stmt := topS 30
abbrev s_law_due : Stmt := topS 31
abbrev s_law : Stmt := topS 32
abbrev YS : List Str := []
structure Tx (K : PySem.W.Frag) (mg : Str → Option Value) where
  f_is_word : Addr
  fd_is_word : FuncData
  F_is_word : Fun K "is_word" "is_word" s_is_word f_is_word fd_is_word
  g_is_word : mg "is_word" = some (.ref f_is_word)
  b_is_word : Binds K fd_is_word ["text"] []
  f_names_of : Addr
  fd_names_of : FuncData
  F_names_of : Fun K "names_of" "names_of" s_names_of f_names_of fd_names_of
  g_names_of : mg "names_of" = some (.ref f_names_of)
  b_names_of : Binds K fd_names_of ["net"] []
  f_entry_of : Addr
  fd_entry_of : FuncData
  F_entry_of : Fun K "entry_of" "entry_of" s_entry_of f_entry_of fd_entry_of
  g_entry_of : mg "entry_of" = some (.ref f_entry_of)
  b_entry_of : Binds K fd_entry_of ["net", "name"] []
  f_values_of : Addr
  fd_values_of : FuncData
  F_values_of : Fun K "values_of" "values_of" s_values_of f_values_of fd_values_of
  g_values_of : mg "values_of" = some (.ref f_values_of)
  b_values_of : Binds K fd_values_of ["net", "name"] []
  f_whole : Addr
  fd_whole : FuncData
  F_whole : Fun K "whole" "whole" s_whole f_whole fd_whole
  g_whole : mg "whole" = some (.ref f_whole)
  b_whole : Binds K fd_whole ["net"] []
  f_once_each : Addr
  fd_once_each : FuncData
  F_once_each : Fun K "once_each" "once_each" s_once_each f_once_each fd_once_each
  g_once_each : mg "once_each" = some (.ref f_once_each)
  b_once_each : Binds K fd_once_each ["some"] []
  f_look_at_values : Addr
  fd_look_at_values : FuncData
  F_look_at_values : Fun K "look_at_values" "look_at_values" s_look_at_values f_look_at_values fd_look_at_values
  g_look_at_values : mg "look_at_values" = some (.ref f_look_at_values)
  b_look_at_values : Binds K fd_look_at_values ["values"] []
  f_look_at_elders : Addr
  fd_look_at_elders : FuncData
  F_look_at_elders : Fun K "look_at_elders" "look_at_elders" s_look_at_elders f_look_at_elders fd_look_at_elders
  g_look_at_elders : mg "look_at_elders" = some (.ref f_look_at_elders)
  b_look_at_elders : Binds K fd_look_at_elders ["net", "elders"] []
  f_many_of : Addr
  fd_many_of : FuncData
  F_many_of : Fun K "many_of" "many_of" s_many_of f_many_of fd_many_of
  g_many_of : mg "many_of" = some (.ref f_many_of)
  b_many_of : Binds K fd_many_of ["table", "choices", "size"] []
  f_made : Addr
  fd_made : FuncData
  F_made : Fun K "made" "made" s_made f_made fd_made
  g_made : mg "made" = some (.ref f_made)
  b_made : Binds K fd_made ["rows"] []
  f_law_cell : Addr
  fd_law_cell : FuncData
  F_law_cell : Fun K "_law_cell" "_law_cell" s_law_cell f_law_cell fd_law_cell
  g_law_cell : mg "_law_cell" = some (.ref f_law_cell)
  b_law_cell : Binds K fd_law_cell ["_law_script", "_law_k"] []
  f_law_words : Addr
  fd_law_words : FuncData
  F_law_words : Fun K "_law_words" "_law_words" s_law_words f_law_words fd_law_words
  g_law_words : mg "_law_words" = some (.ref f_law_words)
  b_law_words : Binds K fd_law_words ["_law_cell_here", "_law_many"] []
  f_law_cuts : Addr
  fd_law_cuts : FuncData
  F_law_cuts : Fun K "_law_cuts" "_law_cuts" s_law_cuts f_law_cuts fd_law_cuts
  g_law_cuts : mg "_law_cuts" = some (.ref f_law_cuts)
  b_law_cuts : Binds K fd_law_cuts ["_law_cell_here", "_law_size", "_law_many"] []
  f_law_shape : Addr
  fd_law_shape : FuncData
  F_law_shape : Fun K "_law_shape" "_law_shape" s_law_shape f_law_shape fd_law_shape
  g_law_shape : mg "_law_shape" = some (.ref f_law_shape)
  b_law_shape : Binds K fd_law_shape ["_law_script", "_law_at", "_law_k", "_law_names", "_law_room"] []
  f_law_rows : Addr
  fd_law_rows : FuncData
  F_law_rows : Fun K "_law_rows" "_law_rows" s_law_rows f_law_rows fd_law_rows
  g_law_rows : mg "_law_rows" = some (.ref f_law_rows)
  b_law_rows : Binds K fd_law_rows ["_law_script", "_law_at", "_law_most", "_law_top"] []
  f_law_copied : Addr
  fd_law_copied : FuncData
  F_law_copied : Fun K "_law_copied" "_law_copied" s_law_copied f_law_copied fd_law_copied
  g_law_copied : mg "_law_copied" = some (.ref f_law_copied)
  b_law_copied : Binds K fd_law_copied ["_law_rows_here"] []
  f_law_alike : Addr
  fd_law_alike : FuncData
  F_law_alike : Fun K "_law_alike" "_law_alike" s_law_alike f_law_alike fd_law_alike
  g_law_alike : mg "_law_alike" = some (.ref f_law_alike)
  b_law_alike : Binds K fd_law_alike ["_law_found", "_law_due_here"] []
  f_law_due : Addr
  fd_law_due : FuncData
  F_law_due : Fun K "_law_due" "_law_due" s_law_due f_law_due fd_law_due
  g_law_due : mg "_law_due" = some (.ref f_law_due)
  b_law_due : Binds K fd_law_due ["_law_rows_here"] []
  f_law : Addr
  fd_law : FuncData
  F_law : Fun K "law" "law" s_law f_law fd_law
  g_law : mg "law" = some (.ref f_law)
  b_law : Binds K fd_law ["_law_script"] []
  n_bool : mg "bool" = none
  n_enumerate : mg "enumerate" = none
  n_int : mg "int" = none
  n_isinstance : mg "isinstance" = none
  n_len : mg "len" = none
  n_list : mg "list" = none
  n_max : mg "max" = none
  n_min : mg "min" = none
  n_range : mg "range" = none
  n_reversed : mg "reversed" = none
  n_str : mg "str" = none
  n_sum : mg "sum" = none
  n_tuple : mg "tuple" = none
  n_zip : mg "zip" = none
  tok_LETTERS : Tok
  c_LETTERS : mg "LETTERS" = some (.str "abcdefghijklmnopqrstuvwxyz" tok_LETTERS)
  tok_MOST_NAMES : Tok
  c_MOST_NAMES : mg "MOST_NAMES" = some (.int 10 tok_MOST_NAMES)
  tok_MOST_WAYS : Tok
  c_MOST_WAYS : mg "MOST_WAYS" = some (.int 4096 tok_MOST_WAYS)
  tok_MOST_PARTS : Tok
  c_MOST_PARTS : mg "MOST_PARTS" = some (.int 1000000000 tok_MOST_PARTS)
  a_OddsError : Addr
  g_OddsError : mg "OddsError" = some (.ref a_OddsError)
  x_OddsError : PySem.W.excIn K a_OddsError [.type "ValueError", .type "Exception", .type "BaseException", .type "object"] "ValueError.__new__" = true
  k_OddsError : PySem.W.keepIn K (.ref a_OddsError) = true
  e_OddsError : PySem.W.subIn K (.ref a_OddsError) (.type "BaseException") = some true
  t_OddsError : PySem.W.typeIn K (.ref a_OddsError) = some (.type "type")
  i_OddsError : PySem.W.isClsIn K a_OddsError = true
  a_NoWord : Addr
  g_NoWord : mg "NoWord" = some (.ref a_NoWord)
  x_NoWord : PySem.W.excIn K a_NoWord [.type "ValueError", .type "Exception", .type "BaseException", .type "object"] "ValueError.__new__" = true
  k_NoWord : PySem.W.keepIn K (.ref a_NoWord) = true
  e_NoWord : PySem.W.subIn K (.ref a_NoWord) (.type "BaseException") = some true
  t_NoWord : PySem.W.typeIn K (.ref a_NoWord) = some (.type "type")
  i_NoWord : PySem.W.isClsIn K a_NoWord = true
  a_Twice : Addr
  g_Twice : mg "Twice" = some (.ref a_Twice)
  x_Twice : PySem.W.excIn K a_Twice [.type "ValueError", .type "Exception", .type "BaseException", .type "object"] "ValueError.__new__" = true
  k_Twice : PySem.W.keepIn K (.ref a_Twice) = true
  e_Twice : PySem.W.subIn K (.ref a_Twice) (.type "BaseException") = some true
  t_Twice : PySem.W.typeIn K (.ref a_Twice) = some (.type "type")
  i_Twice : PySem.W.isClsIn K a_Twice = true
  a_NoElder : Addr
  g_NoElder : mg "NoElder" = some (.ref a_NoElder)
  x_NoElder : PySem.W.excIn K a_NoElder [.type "ValueError", .type "Exception", .type "BaseException", .type "object"] "ValueError.__new__" = true
  k_NoElder : PySem.W.keepIn K (.ref a_NoElder) = true
  e_NoElder : PySem.W.subIn K (.ref a_NoElder) (.type "BaseException") = some true
  t_NoElder : PySem.W.typeIn K (.ref a_NoElder) = some (.type "type")
  i_NoElder : PySem.W.isClsIn K a_NoElder = true
  a_WrongSize : Addr
  g_WrongSize : mg "WrongSize" = some (.ref a_WrongSize)
  x_WrongSize : PySem.W.excIn K a_WrongSize [.type "ValueError", .type "Exception", .type "BaseException", .type "object"] "ValueError.__new__" = true
  k_WrongSize : PySem.W.keepIn K (.ref a_WrongSize) = true
  e_WrongSize : PySem.W.subIn K (.ref a_WrongSize) (.type "BaseException") = some true
  t_WrongSize : PySem.W.typeIn K (.ref a_WrongSize) = some (.type "type")
  i_WrongSize : PySem.W.isClsIn K a_WrongSize = true
  a_WrongTable : Addr
  g_WrongTable : mg "WrongTable" = some (.ref a_WrongTable)
  x_WrongTable : PySem.W.excIn K a_WrongTable [.type "ValueError", .type "Exception", .type "BaseException", .type "object"] "ValueError.__new__" = true
  k_WrongTable : PySem.W.keepIn K (.ref a_WrongTable) = true
  e_WrongTable : PySem.W.subIn K (.ref a_WrongTable) (.type "BaseException") = some true
  t_WrongTable : PySem.W.typeIn K (.ref a_WrongTable) = some (.type "type")
  i_WrongTable : PySem.W.isClsIn K a_WrongTable = true
  a_NoName : Addr
  g_NoName : mg "NoName" = some (.ref a_NoName)
  x_NoName : PySem.W.excIn K a_NoName [.type "ValueError", .type "Exception", .type "BaseException", .type "object"] "ValueError.__new__" = true
  k_NoName : PySem.W.keepIn K (.ref a_NoName) = true
  e_NoName : PySem.W.subIn K (.ref a_NoName) (.type "BaseException") = some true
  t_NoName : PySem.W.typeIn K (.ref a_NoName) = some (.type "type")
  i_NoName : PySem.W.isClsIn K a_NoName = true
  z_NoWord : ExT K mg YS "NoWord" a_NoWord
  z_Twice : ExT K mg YS "Twice" a_Twice
  z_WrongSize : ExT K mg YS "WrongSize" a_WrongSize
  z_NoElder : ExT K mg YS "NoElder" a_NoElder
  z_WrongTable : ExT K mg YS "WrongTable" a_WrongTable
section
variable {P : Program} {w : World} {K : PySem.W.Frag} {mg : Str → Option Value} {base : Heap}
theorem sc_is_word : FnScope ["text", "sign"] ["text"] (defScope s_is_word) := ⟨rfl, rfl, rfl, by decide +kernel, rfl, by decide +kernel, by decide +kernel⟩
theorem okM_is_word (T : Tx K mg) : FnOk P w K mg base (L2.CX P w) 1 T.f_is_word T.fd_is_word ["text"] (spF ⟨K, P, w⟩ mg [.im] .im (M_is_word)) := by
  refine okV (ms := [.im]) (G' := [.im, .un]) (g := G_is_word) T.F_is_word sc_is_word rfl rfl fun cdv A outer s H E hr => ?_
  have hp := passes_of (X := (cxOf (L2.CX P w) P w K mg base ["text", "sign"] "is_word" (defScope s_is_word) T.f_is_word cdv A outer s H E)) rfl
  exact (vs_cons (vs_if (G' := [.im, .un]) (PW.pt (vw_or (vt_cmp op_lt d_lt (ve_blt call_len d_len T.n_len PySem.boot_len (va_cons (ve_im (i := 0)) va_nil)) ve_int) (vw_or1 (vt_cmp op_gt d_gt (ve_blt call_len d_len T.n_len PySem.boot_len (va_cons (ve_im (i := 0)) va_nil)) ve_int)))) (vs_one (vs_ret ve_bl)) vs_nil) (vs_cons (vs_for hp rfl (vi_str (ve_im (i := 0))) (vg_name (i := 1) sc_is_word.nd) (vs_one (vs_if (G' := [.im, .im]) (vt_cmp op_notInS d_notInS (ve_im (i := 1)) (ve_glob (v := .str "abcdefghijklmnopqrstuvwxyz") rfl T.c_LETTERS ⟨_, rfl⟩ fun _ => .str _)) (vs_one (vs_ret ve_bl)) vs_nil)) (by rfl)) (vs_one (vs_ret ve_bl))))
theorem sc_names_of : FnScope ["net", "entry"] ["net"] (defScope s_names_of) := ⟨rfl, rfl, rfl, by decide +kernel, rfl, by decide +kernel, by decide +kernel⟩
theorem okM_names_of (T : Tx K mg) : FnOk P w K mg base (L2.CX P w) 1 T.f_names_of T.fd_names_of ["net"] (spF ⟨K, P, w⟩ mg [.im] .im (M_names_of)) := by
  refine okV (ms := [.im]) (G' := [.im, .un]) (g := G_names_of) T.F_names_of sc_names_of rfl rfl fun cdv A outer s H E hr => ?_
  exact (vs_one (vs_ret (ve_tuple T.n_tuple (ve_comp (G1 := [.im, .im]) (own := [("entry", 1)]) rfl sc_names_of.nd (vi_tup (m := .im) (ve_im (i := 0))) (show BlkOk ["net", "entry"] (defScope s_names_of) _ [("entry", 1)] from ⟨rfl, by decide +kernel, by decide +kernel, by decide +kernel, by decide +kernel⟩) (fun _ _ _ _ _ => (vg_name (i := 1) sc_names_of.nd)) (fun _ _ _ _ _ => vts_nil) (fun _ _ _ _ _ => (ve_item (ve_im (i := 1)) ve_int))))))
theorem sc_entry_of : FnScope ["net", "name", "entry"] ["net", "name"] (defScope s_entry_of) := ⟨rfl, rfl, rfl, by decide +kernel, rfl, by decide +kernel, by decide +kernel⟩
theorem okM_entry_of (T : Tx K mg) : FnOk P w K mg base (L2.CX P w) 1 T.f_entry_of T.fd_entry_of ["net", "name"] (spF ⟨K, P, w⟩ mg [.im, .im] .im (M_entry_of)) := by
  refine okV (ms := [.im, .im]) (G' := [.im, .im, .un]) (g := G_entry_of) T.F_entry_of sc_entry_of rfl rfl fun cdv A outer s H E hr => ?_
  have tk : Takes (cxOf (L2.CX P w) P w K mg base ["net", "name", "entry"] "entry_of" (defScope s_entry_of) T.f_entry_of cdv A outer s H E) (fun cls d _ H => E cls d H) := takes_of rfl rfl rfl rfl
  have hp := passes_of (X := (cxOf (L2.CX P w) P w K mg base ["net", "name", "entry"] "entry_of" (defScope s_entry_of) T.f_entry_of cdv A outer s H E)) rfl
  exact (vs_cons (vs_for hp rfl (vi_tup (m := .im) (ve_im (i := 0))) (vg_name (i := 2) sc_entry_of.nd) (vs_one (vs_if (G' := [.im, .im, .im]) (vt_cmp (op_eqA hr) d_eq (ve_item (ve_im (i := 2)) ve_int) (ve_im (i := 1))) (vs_one (vs_ret (ve_im (i := 2)))) vs_nil)) (by rfl)) (vs_one (vs_raise rfl tk PySem.F.excBase_ValueError T.x_NoName T.g_NoName T.k_NoName (raises_own T.e_NoName T.t_NoName))))
theorem sc_values_of : FnScope ["net", "name"] ["net", "name"] (defScope s_values_of) := ⟨rfl, rfl, rfl, by decide +kernel, rfl, by decide +kernel, by decide +kernel⟩
theorem okM_values_of (T : Tx K mg) : FnOk P w K mg base (L2.CX P w) 2 T.f_values_of T.fd_values_of ["net", "name"] (spF ⟨K, P, w⟩ mg [.im, .im] .im (M_values_of)) := by
  refine okV (ms := [.im, .im]) (G' := [.im, .im]) (g := G_values_of) T.F_values_of sc_values_of rfl rfl fun cdv A outer s H E hr => ?_
  have tk : Takes (cxOf (L2.CX P w) P w K mg base ["net", "name"] "values_of" (defScope s_values_of) T.f_values_of cdv A outer s H E) (fun cls d _ H => E cls d H) := takes_of rfl rfl rfl rfl
  exact (vs_one (vs_ret (ve_item (ve_call (rm := .im) (okM_entry_of T) (hr.mono (by decide)) T.g_entry_of T.F_entry_of.kp T.b_entry_of tk (va_cons (ve_im (i := 0)) (va_cons (ve_im (i := 1)) va_nil))) ve_int)))
theorem sc_whole : FnScope ["net", "total", "entry"] ["net"] (defScope s_whole) := ⟨rfl, rfl, rfl, by decide +kernel, rfl, by decide +kernel, by decide +kernel⟩
theorem okM_whole (T : Tx K mg) : FnOk P w K mg base (L2.CX P w) 1 T.f_whole T.fd_whole ["net"] (spF ⟨K, P, w⟩ mg [.im] .im (M_whole)) := by
  refine okV (ms := [.im]) (G' := [.im, .im, .un]) (g := G_whole) T.F_whole sc_whole rfl rfl fun cdv A outer s H E hr => ?_
  have hp := passes_of (X := (cxOf (L2.CX P w) P w K mg base ["net", "total", "entry"] "whole" (defScope s_whole) T.f_whole cdv A outer s H E)) rfl
  exact (vs_cons (vs_set (i := 1) ve_int sc_whole.nd) (vs_cons (vs_for hp rfl (vi_tup (m := .im) (ve_im (i := 0))) (vg_name (i := 2) sc_whole.nd) (vs_one (vs_aug (i := 1) iop_mulOk d_mul (ve_item (ve_im (i := 2)) ve_int) sc_whole.nd)) (by rfl)) (vs_one (vs_ret (ve_im (i := 1))))))
theorem sc_once_each : FnScope ["some", "k", "thing"] ["some"] (defScope s_once_each) := ⟨rfl, rfl, rfl, by decide +kernel, rfl, by decide +kernel, by decide +kernel⟩
theorem okM_once_each (T : Tx K mg) : FnOk P w K mg base (L2.CX P w) 1 T.f_once_each T.fd_once_each ["some"] (spF ⟨K, P, w⟩ mg [.ar] .im (M_once_each)) := by
  refine okV (ms := [.ar]) (G' := [.ar, .un, .un]) (g := G_once_each) T.F_once_each sc_once_each rfl rfl fun cdv A outer s H E hr => ?_
  have tk : Takes (cxOf (L2.CX P w) P w K mg base ["some", "k", "thing"] "once_each" (defScope s_once_each) T.f_once_each cdv A outer s H E) (fun cls d _ H => E cls d H) := takes_of rfl rfl rfl rfl
  have hp := passes_of (X := (cxOf (L2.CX P w) P w K mg base ["some", "k", "thing"] "once_each" (defScope s_once_each) T.f_once_each cdv A outer s H E)) rfl
  exact (vs_one (vs_forP (i := 1) (j := 2) hp rfl sc_once_each.nd (vi_enum (m := .ar) T.n_enumerate (ve_ar (i := 0))) (vs_one (vs_if (G' := [.ar, .im, .ar]) (vt_cmp op_inA d_in (ve_ar (i := 2)) (ve_slL (ve_ar (i := 0)) vo_none (vo_some (ve_im (i := 1))))) (vs_one (vs_raise rfl tk PySem.F.excBase_ValueError T.x_Twice T.g_Twice T.k_Twice (raises_own T.e_Twice T.t_Twice))) vs_nil)) (by rfl)))
theorem sc_look_at_values : FnScope ["values", "value"] ["values"] (defScope s_look_at_values) := ⟨rfl, rfl, rfl, by decide +kernel, rfl, by decide +kernel, by decide +kernel⟩
theorem okM_look_at_values (T : Tx K mg) : FnOk P w K mg base (L2.CX P w) 2 T.f_look_at_values T.fd_look_at_values ["values"] (spF ⟨K, P, w⟩ mg [.ar] .im (M_look_at_values)) := by
  refine okV (ms := [.ar]) (G' := [.ar, .un]) (g := G_look_at_values) T.F_look_at_values sc_look_at_values rfl rfl fun cdv A outer s H E hr => ?_
  have tk : Takes (cxOf (L2.CX P w) P w K mg base ["values", "value"] "look_at_values" (defScope s_look_at_values) T.f_look_at_values cdv A outer s H E) (fun cls d _ H => E cls d H) := takes_of rfl rfl rfl rfl
  have hp := passes_of (X := (cxOf (L2.CX P w) P w K mg base ["values", "value"] "look_at_values" (defScope s_look_at_values) T.f_look_at_values cdv A outer s H E)) rfl
  exact (vs_cons (vs_if (G' := [.ar, .un]) (PW.pt (vw_or (vt_cmp op_lt d_lt (ve_blt call_len d_len T.n_len PySem.boot_len (va_cons (ve_ar (i := 0)) va_nil)) ve_int) (vw_or1 (vt_cmp op_gt d_gt (ve_blt call_len d_len T.n_len PySem.boot_len (va_cons (ve_ar (i := 0)) va_nil)) ve_int)))) (vs_one (vs_raise rfl tk PySem.F.excBase_ValueError T.x_WrongSize T.g_WrongSize T.k_WrongSize (raises_own T.e_WrongSize T.t_WrongSize))) vs_nil) (vs_cons (vs_for hp rfl (vi_list (m := .ar) (ve_ar (i := 0))) (vg_name (i := 1) sc_look_at_values.nd) (vs_one (vs_if (G' := [.ar, .ar]) (vt_not (vt_val (ve_call (rm := .im) (okM_is_word T) (hr.mono (by decide)) T.g_is_word T.F_is_word.kp T.b_is_word tk (va_cons (ve_flat (ve_ar (i := 1))) va_nil)))) (vs_one (vs_raise rfl tk PySem.F.excBase_ValueError T.x_NoWord T.g_NoWord T.k_NoWord (raises_own T.e_NoWord T.t_NoWord))) vs_nil)) (by rfl)) (vs_one (vs_expr (ve_call (rm := .im) (okM_once_each T) (hr.mono (by decide)) T.g_once_each T.F_once_each.kp T.b_once_each tk (va_cons (ve_ar (i := 0)) va_nil))))))
theorem sc_look_at_elders : FnScope ["net", "elders", "elder"] ["net", "elders"] (defScope s_look_at_elders) := ⟨rfl, rfl, rfl, by decide +kernel, rfl, by decide +kernel, by decide +kernel⟩
theorem okM_look_at_elders (T : Tx K mg) : FnOk P w K mg base (L2.CX P w) 2 T.f_look_at_elders T.fd_look_at_elders ["net", "elders"] (spF ⟨K, P, w⟩ mg [.im, .ar] .im (M_look_at_elders)) := by
  refine okV (ms := [.im, .ar]) (G' := [.im, .ar, .un]) (g := G_look_at_elders) T.F_look_at_elders sc_look_at_elders rfl rfl fun cdv A outer s H E hr => ?_
  have tk : Takes (cxOf (L2.CX P w) P w K mg base ["net", "elders", "elder"] "look_at_elders" (defScope s_look_at_elders) T.f_look_at_elders cdv A outer s H E) (fun cls d _ H => E cls d H) := takes_of rfl rfl rfl rfl
  have hp := passes_of (X := (cxOf (L2.CX P w) P w K mg base ["net", "elders", "elder"] "look_at_elders" (defScope s_look_at_elders) T.f_look_at_elders cdv A outer s H E)) rfl
  exact (vs_cons (vs_if (G' := [.im, .ar, .un]) (vt_cmp op_gt d_gt (ve_blt call_len d_len T.n_len PySem.boot_len (va_cons (ve_ar (i := 1)) va_nil)) ve_int) (vs_one (vs_raise rfl tk PySem.F.excBase_ValueError T.x_WrongSize T.g_WrongSize T.k_WrongSize (raises_own T.e_WrongSize T.t_WrongSize))) vs_nil) (vs_cons (vs_for hp rfl (vi_list (m := .ar) (ve_ar (i := 1))) (vg_name (i := 2) sc_look_at_elders.nd) (vs_one (vs_if (G' := [.im, .ar, .ar]) (vt_cmp op_notInA d_notIn (ve_ar (i := 2)) (ve_call (rm := .im) (okM_names_of T) (hr.mono (by decide)) T.g_names_of T.F_names_of.kp T.b_names_of tk (va_cons (ve_im (i := 0)) va_nil))) (vs_one (vs_raise rfl tk PySem.F.excBase_ValueError T.x_NoElder T.g_NoElder T.k_NoElder (raises_own T.e_NoElder T.t_NoElder))) vs_nil)) (by rfl)) (vs_one (vs_expr (ve_call (rm := .im) (okM_once_each T) (hr.mono (by decide)) T.g_once_each T.F_once_each.kp T.b_once_each tk (va_cons (ve_ar (i := 1)) va_nil))))))
theorem sc_many_of : FnScope ["table", "choices", "size", "row", "many"] ["table", "choices", "size"] (defScope s_many_of) := ⟨rfl, rfl, rfl, by decide +kernel, rfl, by decide +kernel, by decide +kernel⟩
theorem okM_many_of (T : Tx K mg) : FnOk P w K mg base (L2.CX P w) 1 T.f_many_of T.fd_many_of ["table", "choices", "size"] (spF ⟨K, P, w⟩ mg [.ar, .im, .im] .im (M_many_of)) := by
  refine okV (ms := [.ar, .im, .im]) (G' := [.ar, .im, .im, .un, .im]) (g := G_many_of) T.F_many_of sc_many_of rfl rfl fun cdv A outer s H E hr => ?_
  have tk : Takes (cxOf (L2.CX P w) P w K mg base ["table", "choices", "size", "row", "many"] "many_of" (defScope s_many_of) T.f_many_of cdv A outer s H E) (fun cls d _ H => E cls d H) := takes_of rfl rfl rfl rfl
  have hp := passes_of (X := (cxOf (L2.CX P w) P w K mg base ["table", "choices", "size", "row", "many"] "many_of" (defScope s_many_of) T.f_many_of cdv A outer s H E)) rfl
  exact (vs_cons (vs_if (G' := [.ar, .im, .im, .un, .un]) (vt_cmp (op_neA hr) d_ne (ve_blt call_len d_len T.n_len PySem.boot_len (va_cons (ve_ar (i := 0)) va_nil)) (ve_im (i := 1))) (vs_one (vs_raise rfl tk PySem.F.excBase_ValueError T.x_WrongTable T.g_WrongTable T.k_WrongTable (raises_own T.e_WrongTable T.t_WrongTable))) vs_nil) (vs_cons (vs_for hp rfl (vi_list (m := .ar) (ve_ar (i := 0))) (vg_name (i := 3) sc_many_of.nd) (vs_one (vs_if (G' := [.ar, .im, .im, .ar, .un]) (PW.pt (vw_or (vt_cmp (op_neA hr) d_ne (ve_blt call_len d_len T.n_len PySem.boot_len (va_cons (ve_ar (i := 3)) va_nil)) (ve_im (i := 2))) (vw_or (vt_cmp op_lt d_lt (ve_blt (call_minA rfl) d_min T.n_min boot_min (va_cons (ve_ar (i := 3)) va_nil)) ve_int) (vw_or1 (vt_cmp (op_neA hr) d_ne (ve_blt (cr_sum rfl) d_sum T.n_sum boot_sum (va_cons (ve_ar (i := 3)) va_nil)) (ve_blt (cr_sum rfl) d_sum T.n_sum boot_sum (va_cons (ve_item (ve_ar (i := 0)) ve_int) va_nil))))))) (vs_one (vs_raise rfl tk PySem.F.excBase_ValueError T.x_WrongTable T.g_WrongTable T.k_WrongTable (raises_own T.e_WrongTable T.t_WrongTable))) vs_nil)) (by rfl)) (vs_cons (vs_set (i := 4) (ve_blt (cr_sum rfl) d_sum T.n_sum boot_sum (va_cons (ve_item (ve_ar (i := 0)) ve_int) va_nil)) sc_many_of.nd) (vs_cons (vs_if (G' := [.ar, .im, .im, .un, .im]) (PW.pt (vw_or (vt_cmp op_lt d_lt (ve_im (i := 4)) ve_int) (vw_or1 (vt_cmp op_gt d_gt (ve_im (i := 4)) (ve_glob (v := .int 1000000000) rfl T.c_MOST_PARTS ⟨_, rfl⟩ fun _ => .int _))))) (vs_one (vs_raise rfl tk PySem.F.excBase_ValueError T.x_WrongTable T.g_WrongTable T.k_WrongTable (raises_own T.e_WrongTable T.t_WrongTable))) vs_nil) (vs_one (vs_ret (ve_im (i := 4))))))))
theorem sc_made : FnScope ["rows", "net", "ways", "name", "values", "elders", "table", "choices", "elder", "many", "row"] ["rows"] (defScope s_made) := ⟨rfl, rfl, rfl, by decide +kernel, rfl, by decide +kernel, by decide +kernel⟩
theorem okM_made (T : Tx K mg) : FnOk P w K mg base (L2.CX P w) 3 T.f_made T.fd_made ["rows"] (spF ⟨K, P, w⟩ mg [.ar] .im (M_made)) := by
  refine okV (ms := [.ar]) (G' := [.ar, .im, .im, .un, .un, .un, .un, .un, .un, .un, .un]) (g := G_made) T.F_made sc_made rfl rfl fun cdv A outer s H E hr => ?_
  have tk : Takes (cxOf (L2.CX P w) P w K mg base ["rows", "net", "ways", "name", "values", "elders", "table", "choices", "elder", "many", "row"] "made" (defScope s_made) T.f_made cdv A outer s H E) (fun cls d _ H => E cls d H) := takes_of rfl rfl rfl rfl
  have hp := passes_of (X := (cxOf (L2.CX P w) P w K mg base ["rows", "net", "ways", "name", "values", "elders", "table", "choices", "elder", "many", "row"] "made" (defScope s_made) T.f_made cdv A outer s H E)) rfl
  exact (vs_cons (vs_if (G' := [.ar, .un, .un, .un, .un, .un, .un, .un, .un, .un, .un]) (PW.pt (vw_or (vt_cmp op_lt d_lt (ve_blt call_len d_len T.n_len PySem.boot_len (va_cons (ve_ar (i := 0)) va_nil)) ve_int) (vw_or1 (vt_cmp op_gt d_gt (ve_blt call_len d_len T.n_len PySem.boot_len (va_cons (ve_ar (i := 0)) va_nil)) (ve_glob (v := .int 10) rfl T.c_MOST_NAMES ⟨_, rfl⟩ fun _ => .int _))))) (vs_one (vs_raise rfl tk PySem.F.excBase_ValueError T.x_WrongSize T.g_WrongSize T.k_WrongSize (raises_own T.e_WrongSize T.t_WrongSize))) vs_nil) (vs_cons (vs_set (i := 1) (ve_tup va_nil) sc_made.nd) (vs_cons (vs_set (i := 2) ve_int sc_made.nd) (vs_cons (vs_for hp rfl (vi_list (m := .ar) (ve_ar (i := 0))) (vg_tup rfl (pn_cons sc_made.nd (pn_cons sc_made.nd (pn_cons sc_made.nd (pn_cons sc_made.nd pn_nil))))) (vs_cons (vs_if (G' := [.ar, .im, .im, .ar, .ar, .ar, .ar, .un, .un, .un, .un]) (vt_not (vt_val (ve_call (rm := .im) (okM_is_word T) (hr.mono (by decide)) T.g_is_word T.F_is_word.kp T.b_is_word tk (va_cons (ve_flat (ve_ar (i := 3))) va_nil)))) (vs_one (vs_raise rfl tk PySem.F.excBase_ValueError T.x_NoWord T.g_NoWord T.k_NoWord (raises_own T.e_NoWord T.t_NoWord))) vs_nil) (vs_cons (vs_if (G' := [.ar, .im, .im, .ar, .ar, .ar, .ar, .un, .un, .un, .un]) (vt_cmp op_inA d_in (ve_ar (i := 3)) (ve_call (rm := .im) (okM_names_of T) (hr.mono (by decide)) T.g_names_of T.F_names_of.kp T.b_names_of tk (va_cons (ve_im (i := 1)) va_nil))) (vs_one (vs_raise rfl tk PySem.F.excBase_ValueError T.x_Twice T.g_Twice T.k_Twice (raises_own T.e_Twice T.t_Twice))) vs_nil) (vs_cons (vs_expr (ve_call (rm := .im) (okM_look_at_values T) (hr.mono (by decide)) T.g_look_at_values T.F_look_at_values.kp T.b_look_at_values tk (va_cons (ve_ar (i := 4)) va_nil))) (vs_cons (vs_expr (ve_call (rm := .im) (okM_look_at_elders T) (hr.mono (by decide)) T.g_look_at_elders T.F_look_at_elders.kp T.b_look_at_elders tk (va_cons (ve_im (i := 1)) (va_cons (ve_ar (i := 5)) va_nil)))) (vs_cons (vs_aug (i := 2) iop_mulOk d_mul (ve_blt call_len d_len T.n_len PySem.boot_len (va_cons (ve_ar (i := 4)) va_nil)) sc_made.nd) (vs_cons (vs_if (G' := [.ar, .im, .im, .ar, .ar, .ar, .ar, .un, .un, .un, .un]) (vt_cmp op_gt d_gt (ve_im (i := 2)) (ve_glob (v := .int 4096) rfl T.c_MOST_WAYS ⟨_, rfl⟩ fun _ => .int _)) (vs_one (vs_raise rfl tk PySem.F.excBase_ValueError T.x_WrongSize T.g_WrongSize T.k_WrongSize (raises_own T.e_WrongSize T.t_WrongSize))) vs_nil) (vs_cons (vs_set (i := 7) ve_int sc_made.nd) (vs_cons (vs_for hp rfl (vi_list (m := .ar) (ve_ar (i := 5))) (vg_name (i := 8) sc_made.nd) (vs_one (vs_aug (i := 7) iop_mulOk d_mul (ve_blt call_len d_len T.n_len PySem.boot_len (va_cons (ve_call (rm := .im) (okM_values_of T) (hr.mono (by decide)) T.g_values_of T.F_values_of.kp T.b_values_of tk (va_cons (ve_im (i := 1)) (va_cons (ve_flat (ve_ar (i := 8))) va_nil))) va_nil)) sc_made.nd)) (by rfl)) (vs_cons (vs_set (i := 9) (ve_call (rm := .im) (okM_many_of T) (hr.mono (by decide)) T.g_many_of T.F_many_of.kp T.b_many_of tk (va_cons (ve_ar (i := 6)) (va_cons (ve_im (i := 7)) (va_cons (ve_blt call_len d_len T.n_len PySem.boot_len (va_cons (ve_ar (i := 4)) va_nil)) va_nil)))) sc_made.nd) (vs_one (vs_set (i := 1) (ve_catT (ve_im (i := 1)) (ve_tup (va_cons (ve_tup (va_cons (ve_flat (ve_ar (i := 3))) (va_cons (ve_tuple T.n_tuple (ve_ar (i := 4))) (va_cons (ve_tuple T.n_tuple (ve_ar (i := 5))) (va_cons (ve_im (i := 9)) (va_cons (ve_tuple T.n_tuple (ve_comp (G1 := [.ar, .im, .im, .ar, .ar, .ar, .ar, .im, .un, .im, .ar]) (own := [("row", 10)]) rfl sc_made.nd (vi_list (m := .ar) (ve_ar (i := 6))) (show BlkOk ["rows", "net", "ways", "name", "values", "elders", "table", "choices", "elder", "many", "row"] (defScope s_made) _ [("row", 10)] from ⟨rfl, by decide +kernel, by decide +kernel, by decide +kernel, by decide +kernel⟩) (fun _ _ _ _ _ => (vg_name (i := 10) sc_made.nd)) (fun _ _ _ _ _ => vts_nil) (fun _ _ _ _ _ => (ve_tuple T.n_tuple (ve_ar (i := 10)))))) va_nil)))))) va_nil))) sc_made.nd))))))))))) (by rfl)) (vs_one (vs_ret (ve_im (i := 1))))))))
theorem sc_law_cell : FnScope ["_law_script", "_law_k", "_law_spare"] ["_law_script", "_law_k"] (defScope s_law_cell) := ⟨rfl, rfl, rfl, by decide +kernel, rfl, by decide +kernel, by decide +kernel⟩
theorem okM_law_cell (T : Tx K mg) : FnOk P w K mg base (L2.CX P w) 1 T.f_law_cell T.fd_law_cell ["_law_script", "_law_k"] (spF ⟨K, P, w⟩ mg [.ar, .im] .im (M_law_cell)) := by
  refine okV (ms := [.ar, .im]) (G' := [.ar, .im, .im]) (g := G_law_cell) T.F_law_cell sc_law_cell rfl rfl fun cdv A outer s H E hr => ?_
  exact (vs_cons (vs_if (G' := [.ar, .im, .un]) (vt_cmp op_lt d_lt (ve_im (i := 1)) (ve_blt call_len d_len T.n_len PySem.boot_len (va_cons (ve_ar (i := 0)) va_nil))) (vs_one (vs_ret (ve_flat (ve_item (ve_ar (i := 0)) (ve_im (i := 1)))))) vs_nil) (vs_cons (vs_set (i := 2) (ve_bin op_addF d_add ve_int (ve_bin op_mulOk d_mul (ve_bin op_mulOk d_mul ve_int (ve_im (i := 1))) (ve_im (i := 1)))) sc_law_cell.nd) (vs_cons (vs_if (G' := [.ar, .im, .im]) (vt_cmp op_gt d_gt (ve_blt call_len d_len T.n_len PySem.boot_len (va_cons (ve_ar (i := 0)) va_nil)) ve_int) (vs_one (vs_set (i := 2) (ve_bin op_addF d_add (ve_im (i := 2)) (ve_bin op_mulOk d_mul (ve_bin op_mod d_mod (ve_item (ve_ar (i := 0)) ve_int) ve_int) (ve_bin op_addF d_add (ve_im (i := 1)) ve_int))) sc_law_cell.nd)) vs_nil) (vs_one (vs_ret (ve_im (i := 2)))))))
theorem sc_law_words : FnScope ["_law_cell_here", "_law_many", "_law_letters", "_law_k", "_law_size", "_law_stem", "_law_at"] ["_law_cell_here", "_law_many"] (defScope s_law_words) := ⟨rfl, rfl, rfl, by decide +kernel, rfl, by decide +kernel, by decide +kernel⟩
theorem okM_law_words (T : Tx K mg) : FnOk P w K mg base (L2.CX P w) 1 T.f_law_words T.fd_law_words ["_law_cell_here", "_law_many"] (spF ⟨K, P, w⟩ mg [.im, .im] .fr (M_law_words)) := by
  refine okVr (ms := [.im, .im]) (G' := [.im, .im, .im, .un, .im, .im, .im]) (g := G_law_words) T.F_law_words sc_law_words rfl rfl fun cdv A outer s H E hr => ?_
  exact (vs_cons (vs_set (i := 2) ve_str sc_law_words.nd) (vs_cons (vs_if (G' := [.im, .im, .im, .un, .un, .un, .un]) (vt_cmp (op_eqA hr) d_eq (ve_bin op_mod d_mod (ve_im (i := 0)) ve_int) ve_int) (vs_one (vs_retFr (ve_comp (G1 := [.im, .im, .im, .im, .un, .un, .un]) (own := [("_law_k", 3)]) rfl sc_law_words.nd (vi_range1 T.n_range (va_cons (ve_im (i := 1)) va_nil)) (show BlkOk ["_law_cell_here", "_law_many", "_law_letters", "_law_k", "_law_size", "_law_stem", "_law_at"] (defScope s_law_words) _ [("_law_k", 3)] from ⟨rfl, by decide +kernel, by decide +kernel, by decide +kernel, by decide +kernel⟩) (fun _ _ _ _ _ => (vg_name (i := 3) sc_law_words.nd)) (fun _ _ _ _ _ => vts_nil) (fun _ _ _ _ _ => (ve_bin op_mulS d_mulS (ve_item (ve_im (i := 2)) (ve_bin op_mod d_mod (ve_bin op_fdivP d_fdiv (ve_im (i := 0)) ve_int) ve_int)) (ve_bin op_addF d_add (ve_im (i := 3)) ve_int)))))) vs_nil) (vs_cons (vs_set (i := 4) (ve_bin op_mod d_mod (ve_bin op_fdivP d_fdiv (ve_im (i := 0)) ve_int) ve_int) sc_law_words.nd) (vs_cons (vs_set (i := 5) (ve_join ve_str (ve_comp (G1 := [.im, .im, .im, .im, .im, .un, .un]) (own := [("_law_k", 3)]) rfl sc_law_words.nd (vi_range1 T.n_range (va_cons (ve_im (i := 4)) va_nil)) (show BlkOk ["_law_cell_here", "_law_many", "_law_letters", "_law_k", "_law_size", "_law_stem", "_law_at"] (defScope s_law_words) _ [("_law_k", 3)] from ⟨rfl, by decide +kernel, by decide +kernel, by decide +kernel, by decide +kernel⟩) (fun _ _ _ _ _ => (vg_name (i := 3) sc_law_words.nd)) (fun _ _ _ _ _ => vts_nil) (fun _ _ _ _ _ => (ve_item (ve_im (i := 2)) (ve_bin op_mod d_mod (ve_bin op_addF d_add (ve_bin op_fdivP d_fdiv (ve_im (i := 0)) ve_int) (ve_bin op_mulOk d_mul (ve_bin op_addF d_add (ve_im (i := 3)) ve_int) (ve_bin op_addF d_add (ve_im (i := 3)) ve_int))) ve_int))))) sc_law_words.nd) (vs_cons (vs_set (i := 6) (ve_bin op_mod d_mod (ve_bin op_fdivP d_fdiv (ve_im (i := 0)) ve_int) (ve_bin op_addF d_add (ve_im (i := 4)) ve_int)) sc_law_words.nd) (vs_one (vs_retFr (ve_comp (G1 := [.im, .im, .im, .im, .im, .im, .im]) (own := [("_law_k", 3)]) rfl sc_law_words.nd (vi_range1 T.n_range (va_cons (ve_im (i := 1)) va_nil)) (show BlkOk ["_law_cell_here", "_law_many", "_law_letters", "_law_k", "_law_size", "_law_stem", "_law_at"] (defScope s_law_words) _ [("_law_k", 3)] from ⟨rfl, by decide +kernel, by decide +kernel, by decide +kernel, by decide +kernel⟩) (fun _ _ _ _ _ => (vg_name (i := 3) sc_law_words.nd)) (fun _ _ _ _ _ => vts_nil) (fun _ _ _ _ _ => (ve_bin op_addF d_add (ve_bin op_addF d_add (ve_slS (ve_im (i := 5)) vo_none (vo_some (ve_im (i := 6)))) (ve_item (ve_im (i := 2)) (ve_bin op_mod d_mod (ve_bin op_addF d_add (ve_bin op_fdivP d_fdiv (ve_im (i := 0)) ve_int) (ve_bin op_mulOk d_mul ve_int (ve_im (i := 3)))) ve_int))) (ve_slS (ve_im (i := 5)) (vo_some (ve_im (i := 6))) vo_none)))))))))))
theorem sc_law_cuts : FnScope ["_law_cell_here", "_law_size", "_law_many", "_law_numbers", "_law_left", "_law_k", "_law_one"] ["_law_cell_here", "_law_size", "_law_many"] (defScope s_law_cuts) := ⟨rfl, rfl, rfl, by decide +kernel, rfl, by decide +kernel, by decide +kernel⟩
theorem okM_law_cuts (T : Tx K mg) : FnOk P w K mg base (L2.CX P w) 1 T.f_law_cuts T.fd_law_cuts ["_law_cell_here", "_law_size", "_law_many"] (spF ⟨K, P, w⟩ mg [.im, .im, .im] .fr (M_law_cuts)) := by
  refine okVr (ms := [.im, .im, .im]) (G' := [.im, .im, .im, .ow, .im, .un, .un]) (g := G_law_cuts) T.F_law_cuts sc_law_cuts rfl rfl fun cdv A outer s H E hr => ?_
  have hp := passes_of (X := (cxOf (L2.CX P w) P w K mg base ["_law_cell_here", "_law_size", "_law_many", "_law_numbers", "_law_left", "_law_k", "_law_one"] "_law_cuts" (defScope s_law_cuts) T.f_law_cuts cdv A outer s H E)) rfl
  exact (vs_cons (vs_setOw (i := 3) (ve_lst va_nil) sc_law_cuts.nd) (vs_cons (vs_set (i := 4) (ve_im (i := 2)) sc_law_cuts.nd) (vs_cons (vs_for hp rfl (vi_range1 T.n_range (va_cons (ve_bin op_sub d_sub (ve_im (i := 1)) ve_int) va_nil)) (vg_name (i := 5) sc_law_cuts.nd) (vs_cons (vs_set (i := 6) (ve_bin op_mod d_mod (ve_bin op_mod d_mod (ve_bin op_mulOk d_mul (ve_im (i := 0)) (ve_bin op_addF d_add ve_int (ve_bin op_mulOk d_mul (ve_bin op_mulOk d_mul ve_int (ve_im (i := 5))) (ve_im (i := 5))))) ve_int) (ve_bin op_addF d_add (ve_im (i := 4)) ve_int)) sc_law_cuts.nd) (vs_cons (vs_if (G' := [.im, .im, .im, .ow, .im, .im, .im]) (vt_cmp (op_eqA hr) d_eq (ve_bin op_mod d_mod (ve_im (i := 0)) ve_int) ve_int) (vs_one (vs_set (i := 6) (ve_item (ve_lst (va_cons ve_int (va_cons (ve_im (i := 4)) va_nil))) (ve_bin op_mod d_mod (ve_bin op_fdivP d_fdiv (ve_im (i := 0)) (ve_bin op_addF d_add ve_int (ve_im (i := 5)))) ve_int)) sc_law_cuts.nd)) vs_nil) (vs_cons (vs_own (i := 3) PySem.F.slot_list_append rfl mt_append mu_app (va_cons (ve_im (i := 6)) va_nil)) (vs_one (vs_set (i := 4) (ve_bin op_sub d_sub (ve_im (i := 4)) (ve_im (i := 6))) sc_law_cuts.nd))))) (by rfl)) (vs_one (vs_retFr (ve_catL (ve_ow (i := 3)) (ve_lst (va_cons (ve_im (i := 4)) va_nil))))))))
theorem sc_law_shape : FnScope ["_law_script", "_law_at", "_law_k", "_law_names", "_law_room", "_law_shape_here", "_law_size", "_law_elders", "_law_j", "_law_turn", "_law_one", "_law_other", "_law_base", "_law_values"] ["_law_script", "_law_at", "_law_k", "_law_names", "_law_room"] (defScope s_law_shape) := ⟨rfl, rfl, rfl, by decide +kernel, rfl, by decide +kernel, by decide +kernel⟩
theorem okM_law_shape (T : Tx K mg) : FnOk P w K mg base (L2.CX P w) 2 T.f_law_shape T.fd_law_shape ["_law_script", "_law_at", "_law_k", "_law_names", "_law_room"] (spF ⟨K, P, w⟩ mg [.ar, .im, .im, .im, .im] .fr (M_law_shape)) := by
  refine okVr (ms := [.ar, .im, .im, .im, .im]) (G' := [.ar, .im, .im, .im, .im, .im, .im, .im, .un, .im, .un, .im, .im, .im]) (g := G_law_shape) T.F_law_shape sc_law_shape rfl rfl fun cdv A outer s H E hr => ?_
  have tk : Takes (cxOf (L2.CX P w) P w K mg base ["_law_script", "_law_at", "_law_k", "_law_names", "_law_room", "_law_shape_here", "_law_size", "_law_elders", "_law_j", "_law_turn", "_law_one", "_law_other", "_law_base", "_law_values"] "_law_shape" (defScope s_law_shape) T.f_law_shape cdv A outer s H E) (fun cls d _ H => E cls d H) := takes_of rfl rfl rfl rfl
  exact (vs_cons (vs_set (i := 5) (ve_call (rm := .im) (okM_law_cell T) (hr.mono (by decide)) T.g_law_cell T.F_law_cell.kp T.b_law_cell tk (va_cons (ve_ar (i := 0)) (va_cons (ve_bin op_addF d_add (ve_bin op_addF d_add (ve_im (i := 1)) ve_int) (ve_bin op_mulOk d_mul ve_int (ve_im (i := 2)))) va_nil))) sc_law_shape.nd) (vs_cons (vs_set (i := 6) (ve_blt (call_minA rfl) d_min T.n_min boot_min (va_cons (ve_bin op_addF d_add ve_int (ve_item (ve_lst (va_cons ve_int (va_cons ve_int (va_cons ve_int (va_cons ve_int (va_cons ve_int (va_cons ve_int va_nil))))))) (ve_bin op_mod d_mod (ve_im (i := 5)) ve_int))) (va_cons (ve_blt (call_maxA rfl) d_max T.n_max boot_max (va_cons ve_int (va_cons (ve_im (i := 4)) va_nil))) va_nil))) sc_law_shape.nd) (vs_cons (vs_set (i := 7) (ve_frz (ve_slL (ve_comp (G1 := [.ar, .im, .im, .im, .im, .im, .im, .un, .im, .un, .un, .un, .un, .un]) (own := [("_law_j", 8)]) rfl sc_law_shape.nd (vi_range1 T.n_range (va_cons (ve_im (i := 2)) va_nil)) (show BlkOk ["_law_script", "_law_at", "_law_k", "_law_names", "_law_room", "_law_shape_here", "_law_size", "_law_elders", "_law_j", "_law_turn", "_law_one", "_law_other", "_law_base", "_law_values"] (defScope s_law_shape) _ [("_law_j", 8)] from ⟨rfl, by decide +kernel, by decide +kernel, by decide +kernel, by decide +kernel⟩) (fun _ _ _ _ _ => (vg_name (i := 8) sc_law_shape.nd)) (fun _ _ _ _ _ => (vts_one (PW.pt (vw_and (vt_cmp (op_eqA hr) d_eq (ve_bin op_mod d_mod (ve_bin op_fdivP d_fdiv (ve_bin op_fdivP d_fdiv (ve_im (i := 5)) ve_int) (ve_bin op_shlW d_shl ve_int (ve_im (i := 8)))) ve_int) ve_int) (vw_and1 (vt_cmp op_gt d_gt (ve_bin op_mod d_mod (ve_bin op_fdivP d_fdiv (ve_im (i := 5)) ve_int) ve_int) ve_int)))))) (fun _ _ _ _ _ => (ve_item (ve_im (i := 3)) (ve_im (i := 8))))) vo_none (vo_some ve_int))) sc_law_shape.nd) (vs_cons (vs_set (i := 9) (ve_bin op_mod d_mod (ve_bin op_fdivP d_fdiv (ve_im (i := 5)) ve_int) (ve_blt (call_maxA rfl) d_max T.n_max boot_max (va_cons ve_int (va_cons (ve_blt call_len d_len T.n_len PySem.boot_len (va_cons (ve_im (i := 7)) va_nil)) va_nil)))) sc_law_shape.nd) (vs_cons (vs_set (i := 7) (ve_frz (ve_catL (ve_slL (ve_im (i := 7)) (vo_some (ve_im (i := 9))) vo_none) (ve_slL (ve_im (i := 7)) vo_none (vo_some (ve_im (i := 9)))))) sc_law_shape.nd) (vs_cons (vs_if (G' := [.ar, .im, .im, .im, .im, .im, .im, .im, .un, .im, .un, .un, .un, .un]) (vt_cmp (op_eqA hr) d_eq (ve_bin op_mod d_mod (ve_bin op_fdivP d_fdiv (ve_im (i := 5)) ve_int) ve_int) ve_int) (vs_one (vs_compIm (i := 7) (G1 := [.ar, .im, .im, .im, .im, .im, .im, .im, .un, .im, .im, .un, .un, .un]) (own := [("_law_one", 10)]) rfl sc_law_shape.nd (vi_revL (m := .im) T.n_reversed (ve_im (i := 7))) (show BlkOk ["_law_script", "_law_at", "_law_k", "_law_names", "_law_room", "_law_shape_here", "_law_size", "_law_elders", "_law_j", "_law_turn", "_law_one", "_law_other", "_law_base", "_law_values"] (defScope s_law_shape) _ [("_law_one", 10)] from ⟨rfl, by decide +kernel, by decide +kernel, by decide +kernel, by decide +kernel⟩) (fun _ _ _ _ _ => (vg_name (i := 10) sc_law_shape.nd)) (fun _ _ _ _ _ => vts_nil) (fun _ _ _ _ _ => (ve_im (i := 10))))) vs_nil) (vs_cons (vs_set (i := 11) (ve_call (rm := .im) (okM_law_cell T) (hr.mono (by decide)) T.g_law_cell T.F_law_cell.kp T.b_law_cell tk (va_cons (ve_ar (i := 0)) (va_cons (ve_bin op_addF d_add (ve_bin op_addF d_add (ve_im (i := 1)) ve_int) (ve_bin op_mulOk d_mul ve_int (ve_im (i := 2)))) va_nil))) sc_law_shape.nd) (vs_cons (vs_set (i := 12) (ve_call (rm := .im) (okM_law_cell T) (hr.mono (by decide)) T.g_law_cell T.F_law_cell.kp T.b_law_cell tk (va_cons (ve_ar (i := 0)) (va_cons (ve_bin op_addF d_add (ve_im (i := 1)) ve_int) va_nil))) sc_law_shape.nd) (vs_cons (vs_set (i := 13) (ve_frz (ve_call (rm := .fr) (okM_law_words T) (hr.mono (by decide)) T.g_law_words T.F_law_words.kp T.b_law_words tk (va_cons (ve_item (ve_lst (va_cons (ve_bin op_fdivP d_fdiv (ve_im (i := 12)) ve_int) (va_cons (ve_im (i := 12)) (va_cons (ve_bin op_fdivP d_fdiv (ve_im (i := 11)) ve_int) (va_cons (ve_bin op_fdivP d_fdiv (ve_im (i := 11)) ve_int) va_nil))))) (ve_bin op_mod d_mod (ve_bin op_fdivP d_fdiv (ve_im (i := 11)) ve_int) ve_int)) (va_cons (ve_im (i := 6)) va_nil)))) sc_law_shape.nd) (vs_one (vs_retFr (ve_lst (va_cons (ve_im (i := 13)) (va_cons (ve_im (i := 7)) (va_cons (ve_bin op_addF d_add ve_int (ve_bin op_mod d_mod (ve_bin op_fdivP d_fdiv (ve_im (i := 11)) ve_int) (ve_item (ve_lst (va_cons ve_int (va_cons (ve_bin op_pow d_pow ve_int ve_int) va_nil))) (ve_bin op_mod d_mod (ve_im (i := 11)) ve_int)))) va_nil)))))))))))))))
theorem sc_law_rows : FnScope ["_law_script", "_law_at", "_law_most", "_law_top", "_law_count", "_law_names", "_law_rows_here", "_law_sizes", "_law_total", "_law_spot", "_law_k", "_law_turns", "_law_one", "_law_table", "_law_values", "_law_elders", "_law_many", "_law_j"] ["_law_script", "_law_at", "_law_most", "_law_top"] (defScope s_law_rows) := ⟨rfl, rfl, rfl, by decide +kernel, rfl, by decide +kernel, by decide +kernel⟩
theorem okM_law_rows (T : Tx K mg) : FnOk P w K mg base (L2.CX P w) 3 T.f_law_rows T.fd_law_rows ["_law_script", "_law_at", "_law_most", "_law_top"] (spF ⟨K, P, w⟩ mg [.ar, .im, .im, .im] .fr (M_law_rows)) := by
  refine okVr (ms := [.ar, .im, .im, .im]) (G' := [.ar, .im, .im, .im, .im, .im, .ow, .ow, .im, .im, .un, .un, .un, .un, .un, .un, .un, .un]) (g := G_law_rows) T.F_law_rows sc_law_rows rfl rfl fun cdv A outer s H E hr => ?_
  have tk : Takes (cxOf (L2.CX P w) P w K mg base ["_law_script", "_law_at", "_law_most", "_law_top", "_law_count", "_law_names", "_law_rows_here", "_law_sizes", "_law_total", "_law_spot", "_law_k", "_law_turns", "_law_one", "_law_table", "_law_values", "_law_elders", "_law_many", "_law_j"] "_law_rows" (defScope s_law_rows) T.f_law_rows cdv A outer s H E) (fun cls d _ H => E cls d H) := takes_of rfl rfl rfl rfl
  have hp := passes_of (X := (cxOf (L2.CX P w) P w K mg base ["_law_script", "_law_at", "_law_most", "_law_top", "_law_count", "_law_names", "_law_rows_here", "_law_sizes", "_law_total", "_law_spot", "_law_k", "_law_turns", "_law_one", "_law_table", "_law_values", "_law_elders", "_law_many", "_law_j"] "_law_rows" (defScope s_law_rows) T.f_law_rows cdv A outer s H E)) rfl
  exact (vs_cons (vs_set (i := 4) (ve_bin op_addF d_add ve_int (ve_bin op_mod d_mod (ve_call (rm := .im) (okM_law_cell T) (hr.mono (by decide)) T.g_law_cell T.F_law_cell.kp T.b_law_cell tk (va_cons (ve_ar (i := 0)) (va_cons (ve_im (i := 1)) va_nil))) (ve_im (i := 2)))) sc_law_rows.nd) (vs_cons (vs_set (i := 5) (ve_frz (ve_call (rm := .fr) (okM_law_words T) (hr.mono (by decide)) T.g_law_words T.F_law_words.kp T.b_law_words tk (va_cons (ve_call (rm := .im) (okM_law_cell T) (hr.mono (by decide)) T.g_law_cell T.F_law_cell.kp T.b_law_cell tk (va_cons (ve_ar (i := 0)) (va_cons (ve_bin op_addF d_add (ve_im (i := 1)) ve_int) va_nil))) (va_cons (ve_im (i := 4)) va_nil)))) sc_law_rows.nd) (vs_cons (vs_setOw (i := 6) (ve_lst va_nil) sc_law_rows.nd) (vs_cons (vs_setOw (i := 7) ve_dnew sc_law_rows.nd) (vs_cons (vs_set (i := 8) ve_int sc_law_rows.nd) (vs_cons (vs_set (i := 9) (ve_bin op_addF d_add (ve_bin op_addF d_add (ve_im (i := 1)) ve_int) (ve_bin op_mulOk d_mul ve_int (ve_im (i := 4)))) sc_law_rows.nd) (vs_cons (vs_for hp rfl (vi_range1 T.n_range (va_cons (ve_im (i := 4)) va_nil)) (vg_name (i := 10) sc_law_rows.nd) (vs_cons (vs_unp (m := .im) (ve_frz (ve_call (rm := .fr) (okM_law_shape T) (hr.mono (by decide)) T.g_law_shape T.F_law_shape.kp T.b_law_shape tk (va_cons (ve_ar (i := 0)) (va_cons (ve_im (i := 1)) (va_cons (ve_im (i := 10)) (va_cons (ve_im (i := 5)) (va_cons (ve_bin op_fdivP d_fdiv (ve_im (i := 3)) (ve_bin op_mulOk d_mul (ve_im (i := 8)) (ve_bin op_shlW d_shl ve_int (ve_bin op_sub d_sub (ve_bin op_sub d_sub (ve_im (i := 4)) (ve_im (i := 10))) ve_int)))) va_nil))))))) (vg_lst rfl (pn_cons sc_law_rows.nd (pn_cons sc_law_rows.nd (pn_cons sc_law_rows.nd pn_nil))))) (vs_cons (vs_dput (hu_of hr) (i := 7) (ve_blt call_len d_len T.n_len PySem.boot_len (va_cons (ve_im (i := 14)) va_nil)) (ve_item (ve_im (i := 5)) (ve_im (i := 10)))) (vs_cons (vs_set (i := 8) (ve_bin op_mulOk d_mul (ve_im (i := 8)) (ve_blt call_len d_len T.n_len PySem.boot_len (va_cons (ve_im (i := 14)) va_nil))) sc_law_rows.nd) (vs_cons (vs_set (i := 11) ve_int sc_law_rows.nd) (vs_cons (vs_for hp rfl (vi_list (m := .im) (ve_im (i := 15))) (vg_name (i := 12) sc_law_rows.nd) (vs_one (vs_set (i := 11) (ve_bin op_mulOk d_mul (ve_im (i := 11)) (ve_dget (hu_of hr) (ve_ow (i := 7)) (ve_im (i := 12)))) sc_law_rows.nd)) (by rfl)) (vs_cons (vs_compIm (i := 13) (G1 := [.ar, .im, .im, .im, .im, .im, .ow, .ow, .im, .im, .im, .im, .un, .un, .im, .im, .im, .im]) (own := [("_law_j", 17)]) rfl sc_law_rows.nd (vi_range1 T.n_range (va_cons (ve_im (i := 11)) va_nil)) (show BlkOk ["_law_script", "_law_at", "_law_most", "_law_top", "_law_count", "_law_names", "_law_rows_here", "_law_sizes", "_law_total", "_law_spot", "_law_k", "_law_turns", "_law_one", "_law_table", "_law_values", "_law_elders", "_law_many", "_law_j"] (defScope s_law_rows) _ [("_law_j", 17)] from ⟨rfl, by decide +kernel, by decide +kernel, by decide +kernel, by decide +kernel⟩) (fun _ _ _ _ _ => (vg_name (i := 17) sc_law_rows.nd)) (fun _ _ _ _ _ => vts_nil) (fun _ _ _ _ _ => (ve_frz (ve_call (rm := .fr) (okM_law_cuts T) (hr.mono (by decide)) T.g_law_cuts T.F_law_cuts.kp T.b_law_cuts takes0 (va_cons (ve_call (rm := .im) (okM_law_cell T) (hr.mono (by decide)) T.g_law_cell T.F_law_cell.kp T.b_law_cell takes0 (va_cons (ve_ar (i := 0)) (va_cons (ve_bin op_addF d_add (ve_im (i := 9)) (ve_im (i := 17))) va_nil))) (va_cons (ve_blt call_len d_len T.n_len PySem.boot_len (va_cons (ve_im (i := 14)) va_nil)) (va_cons (ve_im (i := 16)) va_nil))))))) (vs_cons (vs_set (i := 9) (ve_bin op_addF d_add (ve_im (i := 9)) (ve_im (i := 11))) sc_law_rows.nd) (vs_one (vs_own (i := 6) PySem.F.slot_list_append rfl mt_append mu_app (va_cons (ve_tup (va_cons (ve_item (ve_im (i := 5)) (ve_im (i := 10))) (va_cons (ve_im (i := 14)) (va_cons (ve_im (i := 15)) (va_cons (ve_im (i := 13)) va_nil))))) va_nil)))))))))) (by rfl)) (vs_one (vs_retOw (i := 6))))))))))
theorem sc_law_copied : FnScope ["_law_rows_here", "_law_name", "_law_values", "_law_elders", "_law_table", "_law_row"] ["_law_rows_here"] (defScope s_law_copied) := ⟨rfl, rfl, rfl, by decide +kernel, rfl, by decide +kernel, by decide +kernel⟩
theorem okM_law_copied (T : Tx K mg) : FnOk P w K mg base (L2.CX P w) 1 T.f_law_copied T.fd_law_copied ["_law_rows_here"] (spF ⟨K, P, w⟩ mg [.im] .fr (M_law_copied)) := by
  refine okVr (ms := [.im]) (G' := [.im, .un, .un, .un, .un, .un]) (g := G_law_copied) T.F_law_copied sc_law_copied rfl rfl fun cdv A outer s H E hr => ?_
  exact (vs_one (vs_retFr (ve_comp (G1 := [.im, .im, .im, .im, .im, .un]) (own := [("_law_name", 1), ("_law_values", 2), ("_law_elders", 3), ("_law_table", 4)]) rfl sc_law_copied.nd (vi_list (m := .im) (ve_im (i := 0))) (show BlkOk ["_law_rows_here", "_law_name", "_law_values", "_law_elders", "_law_table", "_law_row"] (defScope s_law_copied) _ [("_law_name", 1), ("_law_values", 2), ("_law_elders", 3), ("_law_table", 4)] from ⟨rfl, by decide +kernel, by decide +kernel, by decide +kernel, by decide +kernel⟩) (fun _ _ _ _ _ => (vg_tup rfl (pn_cons sc_law_copied.nd (pn_cons sc_law_copied.nd (pn_cons sc_law_copied.nd (pn_cons sc_law_copied.nd pn_nil)))))) (fun _ _ _ _ _ => vts_nil) (fun _ _ _ _ _ => (ve_tup (va_cons (ve_im (i := 1)) (va_cons (ve_frz (ve_list T.n_list (ve_im (i := 2)))) (va_cons (ve_frz (ve_list T.n_list (ve_im (i := 3)))) (va_cons (ve_frz (ve_comp (G1 := [.im, .im, .im, .im, .im, .im]) (own := [("_law_row", 5)]) rfl sc_law_copied.nd (vi_list (m := .im) (ve_im (i := 4))) (blkOk_by (by kernel_rfl)) (fun _ _ _ _ _ => (vg_name (i := 5) sc_law_copied.nd)) (fun _ _ _ _ _ => vts_nil) (fun _ _ _ _ _ => (ve_frz (ve_list T.n_list (ve_im (i := 5))))))) va_nil)))))))))
theorem okMT_law_copied (T : Tx K mg) : FnOk P w K mg base (L2.CX P w) 1 T.f_law_copied T.fd_law_copied ["_law_rows_here"] (spT ⟨K, P, w⟩ mg MT_copied) := by
  refine okVT (g := C_copied) T.F_law_copied sc_law_copied rfl rfl fun cdv A outer s H E hr => ?_
  exact vst_ret (vt_comp (G1 := [.im, .im, .im, .im, .im, .un]) (own := [("_law_name", 1), ("_law_values", 2), ("_law_elders", 3), ("_law_table", 4)]) rfl sc_law_copied.nd (vi_list (m := .im) (ve_im (i := 0))) (show BlkOk ["_law_rows_here", "_law_name", "_law_values", "_law_elders", "_law_table", "_law_row"] (defScope s_law_copied) _ [("_law_name", 1), ("_law_values", 2), ("_law_elders", 3), ("_law_table", 4)] from ⟨rfl, by decide +kernel, by decide +kernel, by decide +kernel, by decide +kernel⟩) (fun _ _ _ _ _ => (vg_tup rfl (pn_cons sc_law_copied.nd (pn_cons sc_law_copied.nd (pn_cons sc_law_copied.nd (pn_cons sc_law_copied.nd pn_nil)))))) (fun _ _ _ _ _ => vts_nil) (fun _ _ _ _ _ => (ve_im (i := 1))) (fun _ _ _ _ _ => (ve_list T.n_list (ve_im (i := 2)))) (fun _ _ _ _ _ => (ve_list T.n_list (ve_im (i := 3)))) (fun _ _ _ _ _ => vd_comp (G1 := [.im, .im, .im, .im, .im, .im]) (own := [("_law_row", 5)]) rfl sc_law_copied.nd (vi_list (m := .im) (ve_im (i := 4))) (blkOk_by (by kernel_rfl)) (fun _ _ _ _ _ => (vg_name (i := 5) sc_law_copied.nd)) (fun _ _ _ _ _ => vts_nil) (fun _ _ _ _ _ => (ve_list T.n_list (ve_im (i := 5))))))
theorem sc_law_alike : FnScope ["_law_found", "_law_due_here", "_law_one", "_law_other"] ["_law_found", "_law_due_here"] (defScope s_law_alike) := ⟨rfl, rfl, rfl, by decide +kernel, rfl, by decide +kernel, by decide +kernel⟩
theorem okM_law_alike (T : Tx K mg) : ∀ k : Nat, FnOk P w K mg base (L2.CX P w) (1 + k) T.f_law_alike T.fd_law_alike ["_law_found", "_law_due_here"] (spF ⟨K, P, w⟩ mg [.im, .im] .im (M_law_alike k))
  | 0 => FnOk.bad
  | k + 1 => by
    have okR := okM_law_alike T k
    refine okV (k := 1 + k) (ms := [.im, .im]) (G' := [.im, .im, .un, .un]) (g := G_law_alike (M_law_alike k)) T.F_law_alike sc_law_alike rfl rfl fun cdv A outer s H E hr => ?_
    generalize M_law_alike k = MR at *
    have tk : Takes (cxOf (L2.CX P w) P w K mg base ["_law_found", "_law_due_here", "_law_one", "_law_other"] "_law_alike" (defScope s_law_alike) T.f_law_alike cdv A outer s H E) (fun cls d _ H => E cls d H) := takes_of rfl rfl rfl rfl
    have hp := passes_of (X := (cxOf (L2.CX P w) P w K mg base ["_law_found", "_law_due_here", "_law_one", "_law_other"] "_law_alike" (defScope s_law_alike) T.f_law_alike cdv A outer s H E)) rfl
    exact (vs_cons (vs_if (G' := [.im, .im, .un, .un]) (PW.pt (vw_or (vt_val (ve_isi (Tn := "bool") T.n_isinstance T.n_bool (by decide +kernel) (ve_im (i := 1)))) (vw_or (vt_val (ve_isi (Tn := "str") T.n_isinstance T.n_str (by decide +kernel) (ve_im (i := 1)))) (vw_or1 (vt_val (ve_isi (Tn := "int") T.n_isinstance T.n_int (by decide +kernel) (ve_im (i := 1)))))))) (vs_cons (vs_if (G' := [.im, .im, .un, .un]) (PW.pt (vw_or (vt_cmp (op_neA hr) d_ne (ve_isi (Tn := "bool") T.n_isinstance T.n_bool (by decide +kernel) (ve_im (i := 0))) (ve_isi (Tn := "bool") T.n_isinstance T.n_bool (by decide +kernel) (ve_im (i := 1)))) (vw_or1 (vt_cmp (op_neA hr) d_ne (ve_isi (Tn := "str") T.n_isinstance T.n_str (by decide +kernel) (ve_im (i := 0))) (ve_isi (Tn := "str") T.n_isinstance T.n_str (by decide +kernel) (ve_im (i := 1))))))) (vs_one (vs_ret ve_bl)) vs_nil) (vs_one (vs_ret (ve_and (ve_isi2 (N1 := "int") (N2 := "str") T.n_isinstance T.n_int T.n_str (by decide +kernel) (by decide +kernel) (ve_im (i := 0))) (ve_one (ve_cmp (op_eqA hr) d_eq (ve_im (i := 0)) (ve_im (i := 1)))))))) vs_nil) (vs_cons (vs_if (G' := [.im, .im, .un, .un]) (PW.pt (vw_or (vt_cmp (op_neA hr) d_ne (ve_isi (Tn := "list") T.n_isinstance T.n_list (by decide +kernel) (ve_im (i := 0))) (ve_isi (Tn := "list") T.n_isinstance T.n_list (by decide +kernel) (ve_im (i := 1)))) (vw_or1 (vt_not (vt_val (ve_isi2 (N1 := "list") (N2 := "tuple") T.n_isinstance T.n_list T.n_tuple (by decide +kernel) (by decide +kernel) (ve_im (i := 0)))))))) (vs_one (vs_ret ve_bl)) vs_nil) (vs_cons (vs_if (G' := [.im, .im, .un, .un]) (vt_cmp (op_neA hr) d_ne (ve_blt call_len d_len T.n_len PySem.boot_len (va_cons (ve_im (i := 0)) va_nil)) (ve_blt call_len d_len T.n_len PySem.boot_len (va_cons (ve_im (i := 1)) va_nil))) (vs_one (vs_ret ve_bl)) vs_nil) (vs_cons (vs_forP (i := 2) (j := 3) hp rfl sc_law_alike.nd (vi_zipA (m1 := .im) (m2 := .im) T.n_zip (ve_im (i := 0)) (ve_im (i := 1))) (vs_one (vs_if (G' := [.im, .im, .im, .im]) (vt_not (vt_val (ve_call (rm := .im) okR (hr.mono (by omega)) T.g_law_alike T.F_law_alike.kp T.b_law_alike tk (va_cons (ve_im (i := 2)) (va_cons (ve_im (i := 3)) va_nil))))) (vs_one (vs_ret ve_bl)) vs_nil)) (by rfl)) (vs_one (vs_ret ve_bl))))))
theorem sc_law_due : FnScope ["_law_rows_here", "_law_entries", "_law_name", "_law_values", "_law_elders", "_law_table", "_law_numbers", "_law_row"] ["_law_rows_here"] (defScope s_law_due) := ⟨rfl, rfl, rfl, by decide +kernel, rfl, by decide +kernel, by decide +kernel⟩
theorem okM_law_due (T : Tx K mg) : FnOk P w K mg base (L2.CX P w) 1 T.f_law_due T.fd_law_due ["_law_rows_here"] (spF ⟨K, P, w⟩ mg [.im] .im (M_law_due)) := by
  refine okV (ms := [.im]) (G' := [.im, .ow, .un, .un, .un, .un, .un, .un]) (g := G_law_due) T.F_law_due sc_law_due rfl rfl fun cdv A outer s H E hr => ?_
  have hp := passes_of (X := (cxOf (L2.CX P w) P w K mg base ["_law_rows_here", "_law_entries", "_law_name", "_law_values", "_law_elders", "_law_table", "_law_numbers", "_law_row"] "_law_due" (defScope s_law_due) T.f_law_due cdv A outer s H E)) rfl
  exact (vs_cons (vs_setOw (i := 1) (ve_lst va_nil) sc_law_due.nd) (vs_cons (vs_for hp rfl (vi_list (m := .im) (ve_im (i := 0))) (vg_tup rfl (pn_cons sc_law_due.nd (pn_cons sc_law_due.nd (pn_cons sc_law_due.nd (pn_cons sc_law_due.nd pn_nil))))) (vs_cons (vs_set (i := 6) (ve_tuple T.n_tuple (ve_comp (G1 := [.im, .ow, .im, .im, .im, .im, .un, .im]) (own := [("_law_row", 7)]) rfl sc_law_due.nd (vi_list (m := .im) (ve_im (i := 5))) (show BlkOk ["_law_rows_here", "_law_entries", "_law_name", "_law_values", "_law_elders", "_law_table", "_law_numbers", "_law_row"] (defScope s_law_due) _ [("_law_row", 7)] from ⟨rfl, by decide +kernel, by decide +kernel, by decide +kernel, by decide +kernel⟩) (fun _ _ _ _ _ => (vg_name (i := 7) sc_law_due.nd)) (fun _ _ _ _ _ => vts_nil) (fun _ _ _ _ _ => (ve_tuple T.n_tuple (ve_im (i := 7)))))) sc_law_due.nd) (vs_one (vs_own (i := 1) PySem.F.slot_list_append rfl mt_append mu_app (va_cons (ve_tup (va_cons (ve_im (i := 2)) (va_cons (ve_tuple T.n_tuple (ve_im (i := 3))) (va_cons (ve_tuple T.n_tuple (ve_im (i := 4))) (va_cons (ve_blt (cr_sum rfl) d_sum T.n_sum boot_sum (va_cons (ve_item (ve_im (i := 5)) ve_int) va_nil)) (va_cons (ve_im (i := 6)) va_nil)))))) va_nil)))) (by rfl)) (vs_one (vs_ret (ve_tuple T.n_tuple (ve_ow (i := 1)))))))
def G_law : List D → R Fl := (sSeq (sAsg 1 (eCall M_law_rows (aCons (eVar 0) (aCons (eC (.int 0)) (aCons (eC (.int 8)) (aCons (eC (.int 512)) aNil)))))) (sSeq (sAsg 2 (eCall M_law_due (aCons (eVar 1) aNil))) (sSeq (sAsgT 3 MT_copied (eVar 1)) (sSeq (sAsg 4 (eCall M_made (aCons (eVar 3) aNil))) (sSeq (sIf (tOrB (tNotB (tVal (eCall (M_law_alike 8) (aCons (eVar 4) (aCons (eVar 2) aNil))))) (tVal (eOp gNe (eVar 3) (eVar 1)))) (sRet (eC (.bl false))) sNil) (sSeq (sAsg 5 (eC (.int 1))) (sSeq (sFor (iTupl (eVar 2)) (tgName 6) (sAsg 5 (eOp gMul (eVar 5) (eIx (eVar 6) (eC (.int 3)))))) (sSeq (sIf (tOrB (tNotB (tVal (eCall (M_law_alike 8) (aCons (eCall M_whole (aCons (eVar 4) aNil)) (aCons (eVar 5) aNil))))) (tNotB (tVal (eCall (M_law_alike 8) (aCons (eCall M_names_of (aCons (eVar 4) aNil)) (aCons (eAsT .fr (eComp (iLst (eVar 1)) (tgName 7) tTrue (eIx (eVar 7) (eC (.int 0))))) aNil)))))) (sRet (eC (.bl false))) sNil) (sRet (eAnd (eCall (M_law_alike 8) (aCons (eVar 4) (aCons (eVar 2) aNil))) (eCall (M_law_alike 8) (aCons (eCall M_made (aCons (eCall M_law_copied (aCons (eVar 1) aNil)) aNil)) (aCons (eVar 2) aNil)))))))))))))
def M_law : List D → R D := runF 12 (G_law)
def T_law_b1  (s1 : Int) (a2 : (Str × (List Str) × (List Str) × Int × (List (List Int)))) : R Int := ((mulR s1 a2.2.2.2.1).bind fun (v_total : Int) => R.ok v_total)
def T_law (v_script : (List Int)) : R Bool := ((T_law_rows v_script (0 : Int) (8 : Int) (512 : Int)).bind fun (v_rows_here : (List (Str × (List Str) × (List Str) × (List (List Int))))) => ((T_law_due v_rows_here).bind fun (v_due_here : (List (Str × (List Str) × (List Str) × Int × (List (List Int))))) => ((tearN v_rows_here).bind fun (v_handed : (List (Str × (List Str) × (List Str) × (List (List Int))))) => ((T_made v_handed).bind fun (v_found : (List (Str × (List Str) × (List Str) × Int × (List (List Int))))) => ((((T_law_alike 8 ((eT (e5 D.str (eT D.str) (eT D.str) D.int (eT (eT D.int)))) v_found) ((eT (e5 D.str (eT D.str) (eT D.str) D.int (eT (eT D.int)))) v_due_here)).bind fun b => R.ok (!b)).bind fun a => if a then R.ok true else (neR (eL (e4 D.str (eL D.str) (eL D.str) (eL (eL D.int)))) v_handed v_rows_here)).bind fun b => if b then (R.ok false) else ((R.ok ()).bind fun (_ : Unit) => R.ok ()).bind fun _ => ((R.ok (1 : Int)).bind fun (v_total : Int) => (((R.ok v_due_here).bind fun l => foldR T_law_b1 l v_total).bind fun (v_total : Int) => (((((((T_whole v_found).bind fun x => R.ok (D.int x)).bind fun x => ((R.ok (D.int v_total)).bind fun x => (R.ok ()).bind fun xs => R.ok (x, xs)).bind fun xs => R.ok (x, xs)).bind fun t => T_law_alike 8 t.1 t.2.1).bind fun b => R.ok (!b)).bind fun a => if a then R.ok true else (((((T_names_of v_found).bind fun x => R.ok ((eT D.str) x)).bind fun x => ((((R.ok v_rows_here).bind fun l => (cmpR (fun (a3 : (Str × (List Str) × (List Str) × (List (List Int)))) => (R.ok true)) (fun (a3 : (Str × (List Str) × (List Str) × (List (List Int)))) => (R.ok a3.1)) l).bind fitN).bind fun x => R.ok ((eT D.str) x)).bind fun x => (R.ok ()).bind fun xs => R.ok (x, xs)).bind fun xs => R.ok (x, xs)).bind fun t => T_law_alike 8 t.1 t.2.1).bind fun b => R.ok (!b))).bind fun b => if b then (R.ok false) else ((R.ok ()).bind fun (_ : Unit) => R.ok ()).bind fun _ => ((T_law_alike 8 ((eT (e5 D.str (eT D.str) (eT D.str) D.int (eT (eT D.int)))) v_found) ((eT (e5 D.str (eT D.str) (eT D.str) D.int (eT (eT D.int)))) v_due_here)).bind fun a => if a then ((((((T_law_copied v_rows_here).bind fun x => (R.ok ()).bind fun xs => R.ok (x, xs)).bind fun t => T_made t.1).bind fun x => R.ok ((eT (e5 D.str (eT D.str) (eT D.str) D.int (eT (eT D.int)))) x)).bind fun x => ((R.ok ((eT (e5 D.str (eT D.str) (eT D.str) D.int (eT (eT D.int)))) v_due_here)).bind fun x => (R.ok ()).bind fun xs => R.ok (x, xs)).bind fun xs => R.ok (x, xs)).bind fun t => T_law_alike 8 t.1 t.2.1) else R.ok false)))))))))
theorem sim_law (v_script : (List Int)) : Ref (M_law [(eL D.int) v_script]) ((T_law v_script).map D.bl) := by
  unfold M_law
  exact run_x (n := 12) (p := [some ((eL D.int) v_script), none, none, none, none, none, none, none, none, none, none, none]) (by unfold G_law T_law; exact (sx_seq (sn_asg (i := 1) (ea := (eL (e4 D.str (eL D.str) (eL D.str) (eL (eL D.int))))) (P := fun (v_rows_here : (List (Str × (List Str) × (List Str) × (List (List Int))))) => [some ((eL D.int) v_script), some ((eL (e4 D.str (eL D.str) (eL D.str) (eL (eL D.int)))) v_rows_here), none, none, none, none, none, none, none, none, none, none]) (by exact (se_call (sa_cons (d := ((eL D.int) v_script)) (sp_var (i := 0)) (sa_cons (d := (D.int (0 : Int))) sp_c (sa_cons (d := (D.int (8 : Int))) sp_c (sa_cons (d := (D.int (512 : Int))) sp_c sa_nil)))) (sim_law_rows v_script (0 : Int) (8 : Int) (512 : Int))))) (fun (v_rows_here : (List (Str × (List Str) × (List Str) × (List (List Int))))) => (sx_seq (sn_asg (i := 2) (ea := (eT (e5 D.str (eT D.str) (eT D.str) D.int (eT (eT D.int))))) (P := fun (v_due_here : (List (Str × (List Str) × (List Str) × Int × (List (List Int))))) => [some ((eL D.int) v_script), some ((eL (e4 D.str (eL D.str) (eL D.str) (eL (eL D.int)))) v_rows_here), some ((eT (e5 D.str (eT D.str) (eT D.str) D.int (eT (eT D.int)))) v_due_here), none, none, none, none, none, none, none, none, none]) (by exact (se_call (sa_cons (d := ((eL (e4 D.str (eL D.str) (eL D.str) (eL (eL D.int)))) v_rows_here)) (sp_var (i := 1)) sa_nil) (sim_law_due v_rows_here)))) (fun (v_due_here : (List (Str × (List Str) × (List Str) × Int × (List (List Int))))) => (sx_seq (sn_tear (i := 3) (P := fun (v_handed : (List (Str × (List Str) × (List Str) × (List (List Int))))) => [none, some ((eL (e4 D.str (eL D.str) (eL D.str) (eL (eL D.int)))) v_rows_here), some ((eT (e5 D.str (eT D.str) (eT D.str) D.int (eT (eT D.int)))) v_due_here), some ((eL (e4 D.str (eL D.str) (eL D.str) (eL (eL D.int)))) v_handed), none, none, none, none, none, none, none, none]) (sp_var (i := 1)) (fun v_handed => And.intro rfl (And.intro rfl (And.intro rfl (trivial))))) (fun (v_handed : (List (Str × (List Str) × (List Str) × (List (List Int))))) => (sx_seq (sn_asg (i := 4) (ea := (eT (e5 D.str (eT D.str) (eT D.str) D.int (eT (eT D.int))))) (P := fun (v_found : (List (Str × (List Str) × (List Str) × Int × (List (List Int))))) => [none, some ((eL (e4 D.str (eL D.str) (eL D.str) (eL (eL D.int)))) v_rows_here), some ((eT (e5 D.str (eT D.str) (eT D.str) D.int (eT (eT D.int)))) v_due_here), some ((eL (e4 D.str (eL D.str) (eL D.str) (eL (eL D.int)))) v_handed), some ((eT (e5 D.str (eT D.str) (eT D.str) D.int (eT (eT D.int)))) v_found), none, none, none, none, none, none, none]) (by exact (se_call (sa_cons (d := ((eL (e4 D.str (eL D.str) (eL D.str) (eL (eL D.int)))) v_handed)) (sp_var (i := 3)) sa_nil) (sim_made v_handed)))) (fun (v_found : (List (Str × (List Str) × (List Str) × Int × (List (List Int))))) => (sx_ifT (by exact (sc_orE (sc_notE (sc_valE (se_call (sa_cons (d := (eA ((eT (e5 D.str (eT D.str) (eT D.str) D.int (eT (eT D.int)))) v_found))) (sp_var (i := 4)) (sa_cons (d := (eA ((eT (e5 D.str (eT D.str) (eT D.str) D.int (eT (eT D.int)))) v_due_here))) (sp_var (i := 2)) sa_nil)) (sim_law_alike 8 ((eT (e5 D.str (eT D.str) (eT D.str) D.int (eT (eT D.int)))) v_found) ((eT (e5 D.str (eT D.str) (eT D.str) D.int (eT (eT D.int)))) v_due_here))))) (sc_valE (se_opP (k := gNe) (ec := D.bl) (k_ne (inj_L (inj_4 inj_str (inj_L inj_str) (inj_L inj_str) (inj_L (inj_L inj_int)))) v_handed v_rows_here) (sp_var (i := 3)) (sp_var (i := 1)))))) (sx_ret (by exact (SP.se (ea := D.bl) (x := false) sp_c))) (sn_yield (P := fun (_ : Unit) => [none, some ((eL (e4 D.str (eL D.str) (eL D.str) (eL (eL D.int)))) v_rows_here), some ((eT (e5 D.str (eT D.str) (eT D.str) D.int (eT (eT D.int)))) v_due_here), some ((eL (e4 D.str (eL D.str) (eL D.str) (eL (eL D.int)))) v_handed), some ((eT (e5 D.str (eT D.str) (eT D.str) D.int (eT (eT D.int)))) v_found), none, none, none, none, none, none, none]) sn_nil (fun (_ : Unit) => ()) (fun (_ : Unit) => by exact And.intro rfl (And.intro rfl (And.intro rfl (And.intro rfl (trivial)))))) (fun _ => (sx_seq (sn_asg (i := 5) (ea := D.int) (P := fun (v_total : Int) => [none, some ((eL (e4 D.str (eL D.str) (eL D.str) (eL (eL D.int)))) v_rows_here), some ((eT (e5 D.str (eT D.str) (eT D.str) D.int (eT (eT D.int)))) v_due_here), some ((eL (e4 D.str (eL D.str) (eL D.str) (eL (eL D.int)))) v_handed), some ((eT (e5 D.str (eT D.str) (eT D.str) D.int (eT (eT D.int)))) v_found), some (D.int v_total), none, none, none, none, none, none]) (by exact (SP.se (ea := D.int) (x := (1 : Int)) sp_c))) (fun (v_total : Int) => (sx_seq (sn_for (P := fun (s1 : Int) => [none, some ((eL (e4 D.str (eL D.str) (eL D.str) (eL (eL D.int)))) v_rows_here), some ((eT (e5 D.str (eT D.str) (eT D.str) D.int (eT (eT D.int)))) v_due_here), some ((eL (e4 D.str (eL D.str) (eL D.str) (eL (eL D.int)))) v_handed), some ((eT (e5 D.str (eT D.str) (eT D.str) D.int (eT (eT D.int)))) v_found), some (D.int s1), none, none, none, none, none, none]) (Pt := fun (s1 : Int) (a2 : (Str × (List Str) × (List Str) × Int × (List (List Int)))) => [none, some ((eL (e4 D.str (eL D.str) (eL D.str) (eL (eL D.int)))) v_rows_here), some ((eT (e5 D.str (eT D.str) (eT D.str) D.int (eT (eT D.int)))) v_due_here), some ((eL (e4 D.str (eL D.str) (eL D.str) (eL (eL D.int)))) v_handed), some ((eT (e5 D.str (eT D.str) (eT D.str) D.int (eT (eT D.int)))) v_found), some (D.int s1), some ((e5 D.str (eT D.str) (eT D.str) D.int (eT (eT D.int))) a2), none, none, none, none, none]) (st := T_law_b1) v_total (si_tup (ea := (e5 D.str (eT D.str) (eT D.str) D.int (eT (eT D.int)))) (SP.se (ea := (eT (e5 D.str (eT D.str) (eT D.str) D.int (eT (eT D.int))))) (x := v_due_here) (sp_var (i := 2)))) (by exact And.intro rfl (And.intro rfl (And.intro rfl (And.intro rfl (And.intro rfl (trivial)))))) (fun _ => tg_name) (fun s1 a2 => by unfold T_law_b1; exact (sn_yield (P := fun (s1 : Int) => [none, some ((eL (e4 D.str (eL D.str) (eL D.str) (eL (eL D.int)))) v_rows_here), some ((eT (e5 D.str (eT D.str) (eT D.str) D.int (eT (eT D.int)))) v_due_here), some ((eL (e4 D.str (eL D.str) (eL D.str) (eL (eL D.int)))) v_handed), some ((eT (e5 D.str (eT D.str) (eT D.str) D.int (eT (eT D.int)))) v_found), some (D.int s1), none, none, none, none, none, none]) (sn_asg (i := 5) (ea := D.int) (P := fun (v_total : Int) => [none, some ((eL (e4 D.str (eL D.str) (eL D.str) (eL (eL D.int)))) v_rows_here), some ((eT (e5 D.str (eT D.str) (eT D.str) D.int (eT (eT D.int)))) v_due_here), some ((eL (e4 D.str (eL D.str) (eL D.str) (eL (eL D.int)))) v_handed), some ((eT (e5 D.str (eT D.str) (eT D.str) D.int (eT (eT D.int)))) v_found), some (D.int v_total), some ((e5 D.str (eT D.str) (eT D.str) D.int (eT (eT D.int))) a2), none, none, none, none, none]) (by exact (se_opP (k := gMul) (ec := D.int) (k_mul s1 a2.2.2.2.1) (sp_var (i := 5)) (sp_ix (d := D.int a2.2.2.2.1) rfl (sp_var (i := 6)) sp_c)))) (fun (v_total : Int) => v_total) (fun (v_total : Int) => by exact And.intro rfl (And.intro rfl (And.intro rfl (And.intro rfl (And.intro rfl (trivial))))))))) (fun (v_total : Int) => (sx_ifT (by exact (sc_orE (sc_notE (sc_valE (se_callE (T := fun (t : (D × D × Unit)) => T_law_alike 8 t.1 t.2.1) (sa_consE (SE.co (eb := eA) (se_call (sa_cons (d := ((eT (e5 D.str (eT D.str) (eT D.str) D.int (eT (eT D.int)))) v_found)) (sp_var (i := 4)) sa_nil) (sim_whole v_found)) (fun x => D.int x) (fun _ => rfl)) (sa_consE (SP.se (ea := eA) (x := (D.int v_total)) (sp_var (i := 5))) sa_nilE)) (fun t => sim_law_alike 8 t.1 t.2.1)))) (sc_notE (sc_valE (se_callE (T := fun (t : (D × D × Unit)) => T_law_alike 8 t.1 t.2.1) (sa_consE (SE.co (eb := eA) (se_call (sa_cons (d := ((eT (e5 D.str (eT D.str) (eT D.str) D.int (eT (eT D.int)))) v_found)) (sp_var (i := 4)) sa_nil) (sim_names_of v_found)) (fun x => (eT D.str) x) (fun _ => rfl)) (sa_consE (SE.co (eb := eA) (se_asT (ea := D.str) (se_comp (Pt := fun (a3 : (Str × (List Str) × (List Str) × (List (List Int)))) => [none, some ((eL (e4 D.str (eL D.str) (eL D.str) (eL (eL D.int)))) v_rows_here), some ((eT (e5 D.str (eT D.str) (eT D.str) D.int (eT (eT D.int)))) v_due_here), some ((eL (e4 D.str (eL D.str) (eL D.str) (eL (eL D.int)))) v_handed), some ((eT (e5 D.str (eT D.str) (eT D.str) D.int (eT (eT D.int)))) v_found), some (D.int v_total), none, some ((e4 D.str (eL D.str) (eL D.str) (eL (eL D.int))) a3), none, none, none, none]) (si_lst (ea := (e4 D.str (eL D.str) (eL D.str) (eL (eL D.int)))) (SP.se (ea := (eL (e4 D.str (eL D.str) (eL D.str) (eL (eL D.int))))) (x := v_rows_here) (sp_var (i := 1)))) (TGs.le (p' := [none, some ((eL (e4 D.str (eL D.str) (eL D.str) (eL (eL D.int)))) v_rows_here), some ((eT (e5 D.str (eT D.str) (eT D.str) D.int (eT (eT D.int)))) v_due_here), some ((eL (e4 D.str (eL D.str) (eL D.str) (eL (eL D.int)))) v_handed), some ((eT (e5 D.str (eT D.str) (eT D.str) D.int (eT (eT D.int)))) v_found), some (D.int v_total), none, none, none, none, none, none]) ((show PLe [none, some ((eL (e4 D.str (eL D.str) (eL D.str) (eL (eL D.int)))) v_rows_here), some ((eT (e5 D.str (eT D.str) (eT D.str) D.int (eT (eT D.int)))) v_due_here), some ((eL (e4 D.str (eL D.str) (eL D.str) (eL (eL D.int)))) v_handed), some ((eT (e5 D.str (eT D.str) (eT D.str) D.int (eT (eT D.int)))) v_found), some (D.int v_total), none, none, none, none, none, none] _ by exact And.intro rfl (And.intro rfl (And.intro rfl (And.intro rfl (And.intro rfl (trivial))))))) tg_name) (fun a3 => (by exact (SCp.sc sc_true))) (fun a3 => (by exact (SP.se (ea := D.str) (x := a3.1) (sp_ix (d := D.str a3.1) rfl (sp_var (i := 7)) sp_c))))) (fun _ => rfl)) (fun x => (eT D.str) x) (fun _ => rfl)) sa_nilE)) (fun t => sim_law_alike 8 t.1 t.2.1)))))) (sx_ret (by exact (SP.se (ea := D.bl) (x := false) sp_c))) (sn_yield (P := fun (_ : Unit) => [none, some ((eL (e4 D.str (eL D.str) (eL D.str) (eL (eL D.int)))) v_rows_here), some ((eT (e5 D.str (eT D.str) (eT D.str) D.int (eT (eT D.int)))) v_due_here), some ((eL (e4 D.str (eL D.str) (eL D.str) (eL (eL D.int)))) v_handed), some ((eT (e5 D.str (eT D.str) (eT D.str) D.int (eT (eT D.int)))) v_found), some (D.int v_total), none, none, none, none, none, none]) sn_nil (fun (_ : Unit) => ()) (fun (_ : Unit) => by exact And.intro rfl (And.intro rfl (And.intro rfl (And.intro rfl (And.intro rfl (trivial))))))) (fun _ => (sx_ret (by exact (se_and (se_call (sa_cons (d := (eA ((eT (e5 D.str (eT D.str) (eT D.str) D.int (eT (eT D.int)))) v_found))) (sp_var (i := 4)) (sa_cons (d := (eA ((eT (e5 D.str (eT D.str) (eT D.str) D.int (eT (eT D.int)))) v_due_here))) (sp_var (i := 2)) sa_nil)) (sim_law_alike 8 ((eT (e5 D.str (eT D.str) (eT D.str) D.int (eT (eT D.int)))) v_found) ((eT (e5 D.str (eT D.str) (eT D.str) D.int (eT (eT D.int)))) v_due_here))) (se_callE (T := fun (t : (D × D × Unit)) => T_law_alike 8 t.1 t.2.1) (sa_consE (SE.co (eb := eA) (se_callE (T := fun (t : ((List (Str × (List Str) × (List Str) × (List (List Int)))) × Unit)) => T_made t.1) (sa_consE (se_call (sa_cons (d := ((eL (e4 D.str (eL D.str) (eL D.str) (eL (eL D.int)))) v_rows_here)) (sp_var (i := 1)) sa_nil) (sim_law_copied v_rows_here)) sa_nilE) (fun t => sim_made t.1)) (fun x => (eT (e5 D.str (eT D.str) (eT D.str) D.int (eT (eT D.int)))) x) (fun _ => rfl)) (sa_consE (SP.se (ea := eA) (x := ((eT (e5 D.str (eT D.str) (eT D.str) D.int (eT (eT D.int)))) v_due_here)) (sp_var (i := 2))) sa_nilE)) (fun t => sim_law_alike 8 t.1 t.2.1)))))))))))))))))))))) (And.intro rfl (trivial))
theorem sc_law : FnScope ["_law_script", "_law_rows_here", "_law_due_here", "_law_handed", "_law_found", "_law_total", "_law_entry", "_law_row", "_law_name", "_law_values", "_law_elders", "_law_table"] ["_law_script"] (defScope s_law) := ⟨rfl, rfl, rfl, by decide +kernel, rfl, by decide +kernel, by decide +kernel⟩
theorem okM_law (T : Tx K mg) : FnOk P w K mg base (L2.CX P w) 10 T.f_law T.fd_law ["_law_script"] (spF ⟨K, P, w⟩ mg [.ar] .im (M_law)) := by
  refine okV (ms := [.ar]) (G' := [.un, .im, .im, .un, .im, .im, .un, .un, .un, .un, .un, .un]) (g := G_law) T.F_law sc_law rfl rfl fun cdv A outer s H E hr => ?_
  have tk : Takes (cxOf (L2.CX P w) P w K mg base ["_law_script", "_law_rows_here", "_law_due_here", "_law_handed", "_law_found", "_law_total", "_law_entry", "_law_row", "_law_name", "_law_values", "_law_elders", "_law_table"] "law" (defScope s_law) T.f_law cdv A outer s H E) (fun cls d _ H => E cls d H) := takes_of rfl rfl rfl rfl
  have hp := passes_of (X := (cxOf (L2.CX P w) P w K mg base ["_law_script", "_law_rows_here", "_law_due_here", "_law_handed", "_law_found", "_law_total", "_law_entry", "_law_row", "_law_name", "_law_values", "_law_elders", "_law_table"] "law" (defScope s_law) T.f_law cdv A outer s H E)) rfl
  exact (vs_cons (vs_set (i := 1) (ve_frz (ve_call (rm := .fr) (okM_law_rows T) (hr.mono (by decide)) T.g_law_rows T.F_law_rows.kp T.b_law_rows tk (va_cons (ve_ar (i := 0)) (va_cons ve_int (va_cons ve_int (va_cons ve_int va_nil)))))) sc_law.nd) (vs_cons (vs_set (i := 2) (ve_call (rm := .im) (okM_law_due T) (hr.mono (by decide)) T.g_law_due T.F_law_due.kp T.b_law_due tk (va_cons (ve_im (i := 1)) va_nil)) sc_law.nd) (vs2_start (i := 3) (Ga := fun vaq => [.un, .im, .im, .aq vaq, .un, .un, .un, .un, .un, .un, .un, .un]) (okMT_law_copied T) (hr.mono (by decide)) T.g_law_copied T.F_law_copied.kp T.b_law_copied tk (ve_im (i := 1)) (vs2_cons (Gb := fun vaq => [.un, .im, .im, .aq vaq, .im, .un, .un, .un, .un, .un, .un, .un]) (fun vaq => (vs_set (i := 4) (ve_call (rm := .im) (okM_made T) (hr.mono (by decide)) T.g_made T.F_made.kp T.b_made tk (va_cons (ve_aq (i := 3)) va_nil)) sc_law.nd)) (vs2_cons (Gb := fun vaq => [.un, .im, .im, .aq vaq, .im, .un, .un, .un, .un, .un, .un, .un]) (fun vaq => (vs_if (G' := [.un, .im, .im, .aq vaq, .im, .un, .un, .un, .un, .un, .un, .un]) (PW.pt (vw_or (vt_not (vt_val (ve_call (rm := .im) (okM_law_alike T 8) (hr.mono (by decide)) T.g_law_alike T.F_law_alike.kp T.b_law_alike tk (va_cons (ve_im (i := 4)) (va_cons (ve_im (i := 2)) va_nil))))) (vw_or1 (vt_cmp (op_neA hr) d_ne (ve_aq (i := 3)) (ve_im (i := 1)))))) (vs_one (vs_ret ve_bl)) vs_nil)) (vs2_cons (Gb := fun vaq => [.un, .im, .im, .aq vaq, .im, .im, .un, .un, .un, .un, .un, .un]) (fun vaq => (vs_set (i := 5) ve_int sc_law.nd)) (vs2_cons (Gb := fun vaq => [.un, .im, .im, .aq vaq, .im, .im, .un, .un, .un, .un, .un, .un]) (fun vaq => (vs_for hp rfl (vi_tup (m := .im) (ve_im (i := 2))) (vg_name (i := 6) sc_law.nd) (vs_one (vs_set (i := 5) (ve_bin op_mulOk d_mul (ve_im (i := 5)) (ve_item (ve_im (i := 6)) ve_int)) sc_law.nd)) (by simp [setG, leG, leM, Pm.md]))) (vs2_cons (Gb := fun vaq => [.un, .im, .im, .aq vaq, .im, .im, .un, .un, .un, .un, .un, .un]) (fun vaq => (vs_if (G' := [.un, .im, .im, .aq vaq, .im, .im, .un, .un, .un, .un, .un, .un]) (PW.pt (vw_or (vt_not (vt_val (ve_call (rm := .im) (okM_law_alike T 8) (hr.mono (by decide)) T.g_law_alike T.F_law_alike.kp T.b_law_alike tk (va_cons (ve_call (rm := .im) (okM_whole T) (hr.mono (by decide)) T.g_whole T.F_whole.kp T.b_whole tk (va_cons (ve_im (i := 4)) va_nil)) (va_cons (ve_im (i := 5)) va_nil))))) (vw_or1 (vt_not (vt_val (ve_call (rm := .im) (okM_law_alike T 8) (hr.mono (by decide)) T.g_law_alike T.F_law_alike.kp T.b_law_alike tk (va_cons (ve_call (rm := .im) (okM_names_of T) (hr.mono (by decide)) T.g_names_of T.F_names_of.kp T.b_names_of tk (va_cons (ve_im (i := 4)) va_nil)) (va_cons (ve_tuple T.n_tuple (ve_comp (G1 := [.un, .im, .im, .aq vaq, .im, .im, .un, .im, .un, .un, .un, .un]) (own := [("_law_row", 7)]) rfl sc_law.nd (vi_list (m := .im) (ve_im (i := 1))) (show BlkOk ["_law_script", "_law_rows_here", "_law_due_here", "_law_handed", "_law_found", "_law_total", "_law_entry", "_law_row", "_law_name", "_law_values", "_law_elders", "_law_table"] (defScope s_law) _ [("_law_row", 7)] from ⟨rfl, by decide +kernel, by decide +kernel, by decide +kernel, by decide +kernel⟩) (fun _ _ _ _ _ => (vg_name (i := 7) sc_law.nd)) (fun _ _ _ _ _ => vts_nil) (fun _ _ _ _ _ => (ve_item (ve_im (i := 7)) ve_int)))) va_nil)))))))) (vs_one (vs_ret ve_bl)) vs_nil)) (vs2_tear (i := 3) (js := [8, 9, 10, 11]) (G3 := [.un, .im, .im, .un, .im, .im, .un, .un, .un, .un, .un, .un]) (ps_tear (i := 3) hp rfl (pn_cons sc_law.nd (pn_cons sc_law.nd (pn_cons sc_law.nd (pn_cons sc_law.nd pn_nil)))) ps_app2 ps_clr ps_clr0) ps_clr (vs_one (vs_ret (ve_and (ve_call (rm := .im) (okM_law_alike T 8) (hr.mono (by decide)) T.g_law_alike T.F_law_alike.kp T.b_law_alike tk (va_cons (ve_im (i := 4)) (va_cons (ve_im (i := 2)) va_nil))) (ve_one (ve_call (rm := .im) (okM_law_alike T 8) (hr.mono (by decide)) T.g_law_alike T.F_law_alike.kp T.b_law_alike tk (va_cons (ve_call (rm := .im) (okM_made T) (hr.mono (by decide)) T.g_made T.F_made.kp T.b_made tk (va_cons (ve_call (rm := .fr) (okM_law_copied T) (hr.mono (by decide)) T.g_law_copied T.F_law_copied.kp T.b_law_copied tk (va_cons (ve_im (i := 1)) va_nil)) va_nil)) (va_cons (ve_im (i := 2)) va_nil))))))))))))) (fun _ => rfl) sc_law.nd)))
end
theorem alD_names (l : List Str) : alD 7 (eT D.str l) = true := alD_T fun _ _ => rfl
theorem good_tear {rows : List NRow} (h : GoodL rows) (hl : rows.length ≤ 10) : tearN rows = .ok rows := by
  unfold tearN
  refine if_pos ⟨by rw [sizeLine_eq]; omega, fun r hr => ?_⟩
  obtain ⟨k, hk⟩ := List.getElem?_of_mem hr
  have g := (h k r hk).1
  have t := good_tab _ _ _ h.good r hr
  have v := g.vl
  exact ⟨by rw [sizeLine_eq]; omega, t.2, t.1⟩
theorem law_T (ns : List Int) (hl : ns.length ≤ 63) (hb : ∀ z ∈ ns, Builtin.Int.intBits z ≤ 1048576) : T_law ns = .ok true := by
  obtain ⟨rows, hrows, r1, r2, g⟩ := T_law_rows_ok ns 0 8 512 (by decide) (by decide) (by decide) (by decide) (by decide)
  have rl : rows.length ≤ 10 := by omega
  have G : NG (rows.map dueE) := NG.of g r1 rl
  have pl : plD 20 (eRows rows) = true := pl_rows g.pl
  have ne : neR (eL (e4 D.str (eL D.str) (eL D.str) (eL (eL D.int)))) rows rows = .ok false := neR_self pl
  have al : T_law_alike 8 (eT (e5 D.str (eT D.str) (eT D.str) D.int (eT (eT D.int))) (rows.map dueE)) (eT (e5 D.str (eT D.str) (eT D.str) D.int (eT (eT D.int))) (rows.map dueE)) = .ok true := alike_net _
  have mk := g.made r1 rl
  have tot : foldR T_law_b1 (rows.map dueE) 1 = .ok (manyF (rows.map dueE)) := by
    rw [foldR_eq (g := fun p e => p * e.2.2.2.1) _ 1 fun s e he => ?_]
    · rfl
    · have m1 := G.mn e he
      unfold T_law_b1
      rw [mulR_ok (mulOk_right (by omega) (by omega))]
      rfl
  have nm : T_names_of (rows.map dueE) = .ok (rows.map (·.1)) := by
    rw [T_names_of_eq (by rw [List.length_map, sizeLine_eq]; omega), List.map_map]
    rfl
  have cm : (cmpR (fun a3 : NRow => R.ok true) (fun a3 : NRow => R.ok a3.1) rows) = .ok (rows.map (·.1)) := cmpR_map (f := fun r : NRow => r.1) (fun _ _ => rfl)
  have fm : fitN (rows.map (·.1)) = .ok (rows.map (·.1)) := fitN_ok (by rw [List.length_map, sizeLine_eq]; omega)
  have ai : T_law_alike 8 (D.int (manyF (rows.map dueE))) (D.int (manyF (rows.map dueE))) = .ok true := alike_self 7 _ rfl
  have an : T_law_alike 8 (eT D.str (rows.map (·.1))) (eT D.str (rows.map (·.1))) = .ok true := alike_self 7 _ (alD_names _)
  have cp := g.copied rl
  unfold T_law
  rw [hrows, R.bind_ok, g.due rl, R.bind_ok, good_tear g rl, R.bind_ok, mk, R.bind_ok, al]
  simp only [↓bnd_ok, ↓bnd_ex, ↓ifT, ↓ifF, ↓thx_nx, ↓thx_rt, ↓thn_nx, ↓thn_rt, ↓opt_n, ↓opt_s, ↓dec_self, dec_True, dec_False, not_t, not_f, ↓or_t, ↓or_f, ↓and_t, ↓and_f, ↓noX_ok, ↓try_ok, ↓iteT_, ↓iteF_, Bool.false_eq_true, ne, tot, T_whole_eq G, nm, cm, fm, ai, an, cp, mk, al]
theorem law_true (ns : List Int) (hl : ns.length ≤ 63) (hb : ∀ z ∈ ns, Builtin.Int.intBits z ≤ 1048576) : M_law [.lst (ns.map D.int)] = .ok (.bl true) := M_of_T (sim_law ns) (law_T ns hl hb)
theorem all_mk {l : PySem.W.OpenLaw} {w : World} {K : PySem.W.Frag} {h : Heap} {mg : Str → Option Value} {fa : Addr} (X : K.In h) (G : h.Ns mainGlobals mg) (hfa : mg "law" = some (.ref fa))
    {f0 : Addr} {od0 an0 : Option Addr} {sl0 : Array (Option Value)} {oc0 kV0 dc0 pm0 cd0 ct0 : Value} {f1 : Addr} {od1 an1 : Option Addr} {sl1 : Array (Option Value)} {oc1 kV1 dc1 pm1 cd1 ct1 : Value} {f2 : Addr} {od2 an2 : Option Addr} {sl2 : Array (Option Value)} {oc2 kV2 dc2 pm2 cd2 ct2 : Value} {f3 : Addr} {od3 an3 : Option Addr} {sl3 : Array (Option Value)} {oc3 kV3 dc3 pm3 cd3 ct3 : Value} {f4 : Addr} {od4 an4 : Option Addr} {sl4 : Array (Option Value)} {oc4 kV4 dc4 pm4 cd4 ct4 : Value} {f5 : Addr} {od5 an5 : Option Addr} {sl5 : Array (Option Value)} {oc5 kV5 dc5 pm5 cd5 ct5 : Value} {f6 : Addr} {od6 an6 : Option Addr} {sl6 : Array (Option Value)} {oc6 kV6 dc6 pm6 cd6 ct6 : Value} {f7 : Addr} {od7 an7 : Option Addr} {sl7 : Array (Option Value)} {oc7 kV7 dc7 pm7 cd7 ct7 : Value} {f8 : Addr} {od8 an8 : Option Addr} {sl8 : Array (Option Value)} {oc8 kV8 dc8 pm8 cd8 ct8 : Value} {f9 : Addr} {od9 an9 : Option Addr} {sl9 : Array (Option Value)} {oc9 kV9 dc9 pm9 cd9 ct9 : Value} {f10 : Addr} {od10 an10 : Option Addr} {sl10 : Array (Option Value)} {oc10 kV10 dc10 pm10 cd10 ct10 : Value} {f11 : Addr} {od11 an11 : Option Addr} {sl11 : Array (Option Value)} {oc11 kV11 dc11 pm11 cd11 ct11 : Value} {f12 : Addr} {od12 an12 : Option Addr} {sl12 : Array (Option Value)} {oc12 kV12 dc12 pm12 cd12 ct12 : Value} {f13 : Addr} {od13 an13 : Option Addr} {sl13 : Array (Option Value)} {oc13 kV13 dc13 pm13 cd13 ct13 : Value} {f14 : Addr} {od14 an14 : Option Addr} {sl14 : Array (Option Value)} {oc14 kV14 dc14 pm14 cd14 ct14 : Value} {f15 : Addr} {od15 an15 : Option Addr} {sl15 : Array (Option Value)} {oc15 kV15 dc15 pm15 cd15 ct15 : Value} {f16 : Addr} {od16 an16 : Option Addr} {sl16 : Array (Option Value)} {oc16 kV16 dc16 pm16 cd16 ct16 : Value} {f17 : Addr} {od17 an17 : Option Addr} {sl17 : Array (Option Value)} {oc17 kV17 dc17 pm17 cd17 ct17 : Value} {f18 : Addr} {od18 an18 : Option Addr} {sl18 : Array (Option Value)} {oc18 kV18 dc18 pm18 cd18 ct18 : Value}
    {tk_LETTERS : Tok} {tk_MOST_NAMES : Tok} {tk_MOST_WAYS : Tok} {tk_MOST_PARTS : Tok} {A_OddsError : Addr} {A_NoWord : Addr} {A_Twice : Addr} {A_NoElder : Addr} {A_WrongSize : Addr} {A_WrongTable : Addr} {A_NoName : Addr}
    (a0 : PySem.W.nsIn K mainGlobals "is_word" = some (some (.ref f0)))
    (l0 : K.lookup f0 = some ⟨oc0, od0, .func (PySem.W.fnOf "is_word" "is_word" (defArgs s_is_word) (defBody s_is_word) (defScope s_is_word) .none kV0 dc0 pm0 an0 cd0 ct0), sl0⟩)
    (c0 : PySem.W.codeIn K cd0 "is_word" = true)
    (k0 : PySem.W.keepIn K (.ref f0) = true)
    (a1 : PySem.W.nsIn K mainGlobals "names_of" = some (some (.ref f1)))
    (l1 : K.lookup f1 = some ⟨oc1, od1, .func (PySem.W.fnOf "names_of" "names_of" (defArgs s_names_of) (defBody s_names_of) (defScope s_names_of) .none kV1 dc1 pm1 an1 cd1 ct1), sl1⟩)
    (c1 : PySem.W.codeIn K cd1 "names_of" = true)
    (k1 : PySem.W.keepIn K (.ref f1) = true)
    (a2 : PySem.W.nsIn K mainGlobals "entry_of" = some (some (.ref f2)))
    (l2 : K.lookup f2 = some ⟨oc2, od2, .func (PySem.W.fnOf "entry_of" "entry_of" (defArgs s_entry_of) (defBody s_entry_of) (defScope s_entry_of) .none kV2 dc2 pm2 an2 cd2 ct2), sl2⟩)
    (c2 : PySem.W.codeIn K cd2 "entry_of" = true)
    (k2 : PySem.W.keepIn K (.ref f2) = true)
    (a3 : PySem.W.nsIn K mainGlobals "values_of" = some (some (.ref f3)))
    (l3 : K.lookup f3 = some ⟨oc3, od3, .func (PySem.W.fnOf "values_of" "values_of" (defArgs s_values_of) (defBody s_values_of) (defScope s_values_of) .none kV3 dc3 pm3 an3 cd3 ct3), sl3⟩)
    (c3 : PySem.W.codeIn K cd3 "values_of" = true)
    (k3 : PySem.W.keepIn K (.ref f3) = true)
    (a4 : PySem.W.nsIn K mainGlobals "whole" = some (some (.ref f4)))
    (l4 : K.lookup f4 = some ⟨oc4, od4, .func (PySem.W.fnOf "whole" "whole" (defArgs s_whole) (defBody s_whole) (defScope s_whole) .none kV4 dc4 pm4 an4 cd4 ct4), sl4⟩)
    (c4 : PySem.W.codeIn K cd4 "whole" = true)
    (k4 : PySem.W.keepIn K (.ref f4) = true)
    (a5 : PySem.W.nsIn K mainGlobals "once_each" = some (some (.ref f5)))
    (l5 : K.lookup f5 = some ⟨oc5, od5, .func (PySem.W.fnOf "once_each" "once_each" (defArgs s_once_each) (defBody s_once_each) (defScope s_once_each) .none kV5 dc5 pm5 an5 cd5 ct5), sl5⟩)
    (c5 : PySem.W.codeIn K cd5 "once_each" = true)
    (k5 : PySem.W.keepIn K (.ref f5) = true)
    (a6 : PySem.W.nsIn K mainGlobals "look_at_values" = some (some (.ref f6)))
    (l6 : K.lookup f6 = some ⟨oc6, od6, .func (PySem.W.fnOf "look_at_values" "look_at_values" (defArgs s_look_at_values) (defBody s_look_at_values) (defScope s_look_at_values) .none kV6 dc6 pm6 an6 cd6 ct6), sl6⟩)
    (c6 : PySem.W.codeIn K cd6 "look_at_values" = true)
    (k6 : PySem.W.keepIn K (.ref f6) = true)
    (a7 : PySem.W.nsIn K mainGlobals "look_at_elders" = some (some (.ref f7)))
    (l7 : K.lookup f7 = some ⟨oc7, od7, .func (PySem.W.fnOf "look_at_elders" "look_at_elders" (defArgs s_look_at_elders) (defBody s_look_at_elders) (defScope s_look_at_elders) .none kV7 dc7 pm7 an7 cd7 ct7), sl7⟩)
    (c7 : PySem.W.codeIn K cd7 "look_at_elders" = true)
    (k7 : PySem.W.keepIn K (.ref f7) = true)
    (a8 : PySem.W.nsIn K mainGlobals "many_of" = some (some (.ref f8)))
    (l8 : K.lookup f8 = some ⟨oc8, od8, .func (PySem.W.fnOf "many_of" "many_of" (defArgs s_many_of) (defBody s_many_of) (defScope s_many_of) .none kV8 dc8 pm8 an8 cd8 ct8), sl8⟩)
    (c8 : PySem.W.codeIn K cd8 "many_of" = true)
    (k8 : PySem.W.keepIn K (.ref f8) = true)
    (a9 : PySem.W.nsIn K mainGlobals "made" = some (some (.ref f9)))
    (l9 : K.lookup f9 = some ⟨oc9, od9, .func (PySem.W.fnOf "made" "made" (defArgs s_made) (defBody s_made) (defScope s_made) .none kV9 dc9 pm9 an9 cd9 ct9), sl9⟩)
    (c9 : PySem.W.codeIn K cd9 "made" = true)
    (k9 : PySem.W.keepIn K (.ref f9) = true)
    (a10 : PySem.W.nsIn K mainGlobals "_law_cell" = some (some (.ref f10)))
    (l10 : K.lookup f10 = some ⟨oc10, od10, .func (PySem.W.fnOf "_law_cell" "_law_cell" (defArgs s_law_cell) (defBody s_law_cell) (defScope s_law_cell) .none kV10 dc10 pm10 an10 cd10 ct10), sl10⟩)
    (c10 : PySem.W.codeIn K cd10 "_law_cell" = true)
    (k10 : PySem.W.keepIn K (.ref f10) = true)
    (a11 : PySem.W.nsIn K mainGlobals "_law_words" = some (some (.ref f11)))
    (l11 : K.lookup f11 = some ⟨oc11, od11, .func (PySem.W.fnOf "_law_words" "_law_words" (defArgs s_law_words) (defBody s_law_words) (defScope s_law_words) .none kV11 dc11 pm11 an11 cd11 ct11), sl11⟩)
    (c11 : PySem.W.codeIn K cd11 "_law_words" = true)
    (k11 : PySem.W.keepIn K (.ref f11) = true)
    (a12 : PySem.W.nsIn K mainGlobals "_law_cuts" = some (some (.ref f12)))
    (l12 : K.lookup f12 = some ⟨oc12, od12, .func (PySem.W.fnOf "_law_cuts" "_law_cuts" (defArgs s_law_cuts) (defBody s_law_cuts) (defScope s_law_cuts) .none kV12 dc12 pm12 an12 cd12 ct12), sl12⟩)
    (c12 : PySem.W.codeIn K cd12 "_law_cuts" = true)
    (k12 : PySem.W.keepIn K (.ref f12) = true)
    (a13 : PySem.W.nsIn K mainGlobals "_law_shape" = some (some (.ref f13)))
    (l13 : K.lookup f13 = some ⟨oc13, od13, .func (PySem.W.fnOf "_law_shape" "_law_shape" (defArgs s_law_shape) (defBody s_law_shape) (defScope s_law_shape) .none kV13 dc13 pm13 an13 cd13 ct13), sl13⟩)
    (c13 : PySem.W.codeIn K cd13 "_law_shape" = true)
    (k13 : PySem.W.keepIn K (.ref f13) = true)
    (a14 : PySem.W.nsIn K mainGlobals "_law_rows" = some (some (.ref f14)))
    (l14 : K.lookup f14 = some ⟨oc14, od14, .func (PySem.W.fnOf "_law_rows" "_law_rows" (defArgs s_law_rows) (defBody s_law_rows) (defScope s_law_rows) .none kV14 dc14 pm14 an14 cd14 ct14), sl14⟩)
    (c14 : PySem.W.codeIn K cd14 "_law_rows" = true)
    (k14 : PySem.W.keepIn K (.ref f14) = true)
    (a15 : PySem.W.nsIn K mainGlobals "_law_copied" = some (some (.ref f15)))
    (l15 : K.lookup f15 = some ⟨oc15, od15, .func (PySem.W.fnOf "_law_copied" "_law_copied" (defArgs s_law_copied) (defBody s_law_copied) (defScope s_law_copied) .none kV15 dc15 pm15 an15 cd15 ct15), sl15⟩)
    (c15 : PySem.W.codeIn K cd15 "_law_copied" = true)
    (k15 : PySem.W.keepIn K (.ref f15) = true)
    (a16 : PySem.W.nsIn K mainGlobals "_law_alike" = some (some (.ref f16)))
    (l16 : K.lookup f16 = some ⟨oc16, od16, .func (PySem.W.fnOf "_law_alike" "_law_alike" (defArgs s_law_alike) (defBody s_law_alike) (defScope s_law_alike) .none kV16 dc16 pm16 an16 cd16 ct16), sl16⟩)
    (c16 : PySem.W.codeIn K cd16 "_law_alike" = true)
    (k16 : PySem.W.keepIn K (.ref f16) = true)
    (a17 : PySem.W.nsIn K mainGlobals "_law_due" = some (some (.ref f17)))
    (l17 : K.lookup f17 = some ⟨oc17, od17, .func (PySem.W.fnOf "_law_due" "_law_due" (defArgs s_law_due) (defBody s_law_due) (defScope s_law_due) .none kV17 dc17 pm17 an17 cd17 ct17), sl17⟩)
    (c17 : PySem.W.codeIn K cd17 "_law_due" = true)
    (k17 : PySem.W.keepIn K (.ref f17) = true)
    (a18 : PySem.W.nsIn K mainGlobals "law" = some (some (.ref f18)))
    (l18 : K.lookup f18 = some ⟨oc18, od18, .func (PySem.W.fnOf "law" "law" (defArgs s_law) (defBody s_law) (defScope s_law) .none kV18 dc18 pm18 an18 cd18 ct18), sl18⟩)
    (c18 : PySem.W.codeIn K cd18 "law" = true)
    (k18 : PySem.W.keepIn K (.ref f18) = true)
    (z_bool : PySem.W.nsIn K mainGlobals "bool" = some none)
    (z_enumerate : PySem.W.nsIn K mainGlobals "enumerate" = some none)
    (z_int : PySem.W.nsIn K mainGlobals "int" = some none)
    (z_isinstance : PySem.W.nsIn K mainGlobals "isinstance" = some none)
    (z_len : PySem.W.nsIn K mainGlobals "len" = some none)
    (z_list : PySem.W.nsIn K mainGlobals "list" = some none)
    (z_max : PySem.W.nsIn K mainGlobals "max" = some none)
    (z_min : PySem.W.nsIn K mainGlobals "min" = some none)
    (z_range : PySem.W.nsIn K mainGlobals "range" = some none)
    (z_reversed : PySem.W.nsIn K mainGlobals "reversed" = some none)
    (z_str : PySem.W.nsIn K mainGlobals "str" = some none)
    (z_sum : PySem.W.nsIn K mainGlobals "sum" = some none)
    (z_tuple : PySem.W.nsIn K mainGlobals "tuple" = some none)
    (z_zip : PySem.W.nsIn K mainGlobals "zip" = some none)
    (y_LETTERS : PySem.W.nsIn K mainGlobals "LETTERS" = some (some (.str "abcdefghijklmnopqrstuvwxyz" tk_LETTERS)))
    (y_MOST_NAMES : PySem.W.nsIn K mainGlobals "MOST_NAMES" = some (some (.int 10 tk_MOST_NAMES)))
    (y_MOST_WAYS : PySem.W.nsIn K mainGlobals "MOST_WAYS" = some (some (.int 4096 tk_MOST_WAYS)))
    (y_MOST_PARTS : PySem.W.nsIn K mainGlobals "MOST_PARTS" = some (some (.int 1000000000 tk_MOST_PARTS)))
    (ga_OddsError : PySem.W.nsIn K mainGlobals "OddsError" = some (some (.ref A_OddsError)))
    (gx_OddsError : PySem.W.excIn K A_OddsError [.type "ValueError", .type "Exception", .type "BaseException", .type "object"] "ValueError.__new__" = true)
    (gk_OddsError : PySem.W.keepIn K (.ref A_OddsError) = true)
    (ge_OddsError : PySem.W.subIn K (.ref A_OddsError) (.type "BaseException") = some true)
    (gt_OddsError : PySem.W.typeIn K (.ref A_OddsError) = some (.type "type"))
    (gi_OddsError : PySem.W.isClsIn K A_OddsError = true)
    (ga_NoWord : PySem.W.nsIn K mainGlobals "NoWord" = some (some (.ref A_NoWord)))
    (gx_NoWord : PySem.W.excIn K A_NoWord [.type "ValueError", .type "Exception", .type "BaseException", .type "object"] "ValueError.__new__" = true)
    (gk_NoWord : PySem.W.keepIn K (.ref A_NoWord) = true)
    (ge_NoWord : PySem.W.subIn K (.ref A_NoWord) (.type "BaseException") = some true)
    (gt_NoWord : PySem.W.typeIn K (.ref A_NoWord) = some (.type "type"))
    (gi_NoWord : PySem.W.isClsIn K A_NoWord = true)
    (ga_Twice : PySem.W.nsIn K mainGlobals "Twice" = some (some (.ref A_Twice)))
    (gx_Twice : PySem.W.excIn K A_Twice [.type "ValueError", .type "Exception", .type "BaseException", .type "object"] "ValueError.__new__" = true)
    (gk_Twice : PySem.W.keepIn K (.ref A_Twice) = true)
    (ge_Twice : PySem.W.subIn K (.ref A_Twice) (.type "BaseException") = some true)
    (gt_Twice : PySem.W.typeIn K (.ref A_Twice) = some (.type "type"))
    (gi_Twice : PySem.W.isClsIn K A_Twice = true)
    (ga_NoElder : PySem.W.nsIn K mainGlobals "NoElder" = some (some (.ref A_NoElder)))
    (gx_NoElder : PySem.W.excIn K A_NoElder [.type "ValueError", .type "Exception", .type "BaseException", .type "object"] "ValueError.__new__" = true)
    (gk_NoElder : PySem.W.keepIn K (.ref A_NoElder) = true)
    (ge_NoElder : PySem.W.subIn K (.ref A_NoElder) (.type "BaseException") = some true)
    (gt_NoElder : PySem.W.typeIn K (.ref A_NoElder) = some (.type "type"))
    (gi_NoElder : PySem.W.isClsIn K A_NoElder = true)
    (ga_WrongSize : PySem.W.nsIn K mainGlobals "WrongSize" = some (some (.ref A_WrongSize)))
    (gx_WrongSize : PySem.W.excIn K A_WrongSize [.type "ValueError", .type "Exception", .type "BaseException", .type "object"] "ValueError.__new__" = true)
    (gk_WrongSize : PySem.W.keepIn K (.ref A_WrongSize) = true)
    (ge_WrongSize : PySem.W.subIn K (.ref A_WrongSize) (.type "BaseException") = some true)
    (gt_WrongSize : PySem.W.typeIn K (.ref A_WrongSize) = some (.type "type"))
    (gi_WrongSize : PySem.W.isClsIn K A_WrongSize = true)
    (ga_WrongTable : PySem.W.nsIn K mainGlobals "WrongTable" = some (some (.ref A_WrongTable)))
    (gx_WrongTable : PySem.W.excIn K A_WrongTable [.type "ValueError", .type "Exception", .type "BaseException", .type "object"] "ValueError.__new__" = true)
    (gk_WrongTable : PySem.W.keepIn K (.ref A_WrongTable) = true)
    (ge_WrongTable : PySem.W.subIn K (.ref A_WrongTable) (.type "BaseException") = some true)
    (gt_WrongTable : PySem.W.typeIn K (.ref A_WrongTable) = some (.type "type"))
    (gi_WrongTable : PySem.W.isClsIn K A_WrongTable = true)
    (ga_NoName : PySem.W.nsIn K mainGlobals "NoName" = some (some (.ref A_NoName)))
    (gx_NoName : PySem.W.excIn K A_NoName [.type "ValueError", .type "Exception", .type "BaseException", .type "object"] "ValueError.__new__" = true)
    (gk_NoName : PySem.W.keepIn K (.ref A_NoName) = true)
    (ge_NoName : PySem.W.subIn K (.ref A_NoName) (.type "BaseException") = some true)
    (gt_NoName : PySem.W.typeIn K (.ref A_NoName) = some (.type "type"))
    (gi_NoName : PySem.W.isClsIn K A_NoName = true)
    (h1_NoWord : PySem.W.findIn K (.ref A_NoWord) "__getattribute__" = some (some (.builtin "BaseException.__getattribute__")))
    (h2_NoWord : PySem.W.findIn K (.ref A_NoWord) "__getattr__" = some none)
    (h3_NoWord : PySem.W.hasDictIn K A_NoWord = true)
    (h4_NoWord : PySem.W.findIn K (.ref A_NoWord) "__class__" = some (some (.builtin "object.__class__")))
    (h5_NoWord : PySem.W.mroIn K A_NoWord (.type "object") = some true)
    (h6_NoWord : PySem.W.subIn K (.ref A_NoWord) (.type "ValueError") = some true)
    (h7_NoWord : PySem.W.subIn K (.ref A_NoWord) (.ref A_OddsError) = some true)
    (h8_NoWord : PySem.W.subIn K (.ref A_NoWord) (.ref A_NoWord) = some true)
    (h1_Twice : PySem.W.findIn K (.ref A_Twice) "__getattribute__" = some (some (.builtin "BaseException.__getattribute__")))
    (h2_Twice : PySem.W.findIn K (.ref A_Twice) "__getattr__" = some none)
    (h3_Twice : PySem.W.hasDictIn K A_Twice = true)
    (h4_Twice : PySem.W.findIn K (.ref A_Twice) "__class__" = some (some (.builtin "object.__class__")))
    (h5_Twice : PySem.W.mroIn K A_Twice (.type "object") = some true)
    (h6_Twice : PySem.W.subIn K (.ref A_Twice) (.type "ValueError") = some true)
    (h7_Twice : PySem.W.subIn K (.ref A_Twice) (.ref A_OddsError) = some true)
    (h8_Twice : PySem.W.subIn K (.ref A_Twice) (.ref A_Twice) = some true)
    (h1_WrongSize : PySem.W.findIn K (.ref A_WrongSize) "__getattribute__" = some (some (.builtin "BaseException.__getattribute__")))
    (h2_WrongSize : PySem.W.findIn K (.ref A_WrongSize) "__getattr__" = some none)
    (h3_WrongSize : PySem.W.hasDictIn K A_WrongSize = true)
    (h4_WrongSize : PySem.W.findIn K (.ref A_WrongSize) "__class__" = some (some (.builtin "object.__class__")))
    (h5_WrongSize : PySem.W.mroIn K A_WrongSize (.type "object") = some true)
    (h6_WrongSize : PySem.W.subIn K (.ref A_WrongSize) (.type "ValueError") = some true)
    (h7_WrongSize : PySem.W.subIn K (.ref A_WrongSize) (.ref A_OddsError) = some true)
    (h8_WrongSize : PySem.W.subIn K (.ref A_WrongSize) (.ref A_WrongSize) = some true)
    (h1_NoElder : PySem.W.findIn K (.ref A_NoElder) "__getattribute__" = some (some (.builtin "BaseException.__getattribute__")))
    (h2_NoElder : PySem.W.findIn K (.ref A_NoElder) "__getattr__" = some none)
    (h3_NoElder : PySem.W.hasDictIn K A_NoElder = true)
    (h4_NoElder : PySem.W.findIn K (.ref A_NoElder) "__class__" = some (some (.builtin "object.__class__")))
    (h5_NoElder : PySem.W.mroIn K A_NoElder (.type "object") = some true)
    (h6_NoElder : PySem.W.subIn K (.ref A_NoElder) (.type "ValueError") = some true)
    (h7_NoElder : PySem.W.subIn K (.ref A_NoElder) (.ref A_OddsError) = some true)
    (h8_NoElder : PySem.W.subIn K (.ref A_NoElder) (.ref A_NoElder) = some true)
    (h1_WrongTable : PySem.W.findIn K (.ref A_WrongTable) "__getattribute__" = some (some (.builtin "BaseException.__getattribute__")))
    (h2_WrongTable : PySem.W.findIn K (.ref A_WrongTable) "__getattr__" = some none)
    (h3_WrongTable : PySem.W.hasDictIn K A_WrongTable = true)
    (h4_WrongTable : PySem.W.findIn K (.ref A_WrongTable) "__class__" = some (some (.builtin "object.__class__")))
    (h5_WrongTable : PySem.W.mroIn K A_WrongTable (.type "object") = some true)
    (h6_WrongTable : PySem.W.subIn K (.ref A_WrongTable) (.type "ValueError") = some true)
    (h7_WrongTable : PySem.W.subIn K (.ref A_WrongTable) (.ref A_OddsError) = some true)
    (h8_WrongTable : PySem.W.subIn K (.ref A_WrongTable) (.ref A_WrongTable) = some true)
    (hs1 : PySem.W.specialIn K (.builtin "object.__class__") "__get__" = some (some (.builtin "getset_descriptor.__get__")))
    (hs2 : PySem.W.takesIn K (.builtin "object.__class__") = some true) :
    ∃ fd : FuncData, (∀ (s : Shared) (v : Value), BindsTo s fd ⟨[v], []⟩ [("_law_script", v)]) ∧ ∀ base : Heap, K.In base → base.Ns mainGlobals mg → FnOk l.prog w K mg base (L2.CX l.prog w) 10 fa fd ["_law_script"] (spLaw K) := by
  have e := hfa.symm.trans (PySem.W.mg_of X G a18)
  cases e
  have F0 := fun_mk (st := s_is_word) l0 c0 k0
  have B0 := F0.binds (ps := ["text"]) fun _ _ _ _ _ _ us hl => match us, hl with | [_], _ => rfl
  have F1 := fun_mk (st := s_names_of) l1 c1 k1
  have B1 := F1.binds (ps := ["net"]) fun _ _ _ _ _ _ us hl => match us, hl with | [_], _ => rfl
  have F2 := fun_mk (st := s_entry_of) l2 c2 k2
  have B2 := F2.binds (ps := ["net", "name"]) fun _ _ _ _ _ _ us hl => match us, hl with | [_, _], _ => rfl
  have F3 := fun_mk (st := s_values_of) l3 c3 k3
  have B3 := F3.binds (ps := ["net", "name"]) fun _ _ _ _ _ _ us hl => match us, hl with | [_, _], _ => rfl
  have F4 := fun_mk (st := s_whole) l4 c4 k4
  have B4 := F4.binds (ps := ["net"]) fun _ _ _ _ _ _ us hl => match us, hl with | [_], _ => rfl
  have F5 := fun_mk (st := s_once_each) l5 c5 k5
  have B5 := F5.binds (ps := ["some"]) fun _ _ _ _ _ _ us hl => match us, hl with | [_], _ => rfl
  have F6 := fun_mk (st := s_look_at_values) l6 c6 k6
  have B6 := F6.binds (ps := ["values"]) fun _ _ _ _ _ _ us hl => match us, hl with | [_], _ => rfl
  have F7 := fun_mk (st := s_look_at_elders) l7 c7 k7
  have B7 := F7.binds (ps := ["net", "elders"]) fun _ _ _ _ _ _ us hl => match us, hl with | [_, _], _ => rfl
  have F8 := fun_mk (st := s_many_of) l8 c8 k8
  have B8 := F8.binds (ps := ["table", "choices", "size"]) fun _ _ _ _ _ _ us hl => match us, hl with | [_, _, _], _ => rfl
  have F9 := fun_mk (st := s_made) l9 c9 k9
  have B9 := F9.binds (ps := ["rows"]) fun _ _ _ _ _ _ us hl => match us, hl with | [_], _ => rfl
  have F10 := fun_mk (st := s_law_cell) l10 c10 k10
  have B10 := F10.binds (ps := ["_law_script", "_law_k"]) fun _ _ _ _ _ _ us hl => match us, hl with | [_, _], _ => rfl
  have F11 := fun_mk (st := s_law_words) l11 c11 k11
  have B11 := F11.binds (ps := ["_law_cell_here", "_law_many"]) fun _ _ _ _ _ _ us hl => match us, hl with | [_, _], _ => rfl
  have F12 := fun_mk (st := s_law_cuts) l12 c12 k12
  have B12 := F12.binds (ps := ["_law_cell_here", "_law_size", "_law_many"]) fun _ _ _ _ _ _ us hl => match us, hl with | [_, _, _], _ => rfl
  have F13 := fun_mk (st := s_law_shape) l13 c13 k13
  have B13 := F13.binds (ps := ["_law_script", "_law_at", "_law_k", "_law_names", "_law_room"]) fun _ _ _ _ _ _ us hl => match us, hl with | [_, _, _, _, _], _ => rfl
  have F14 := fun_mk (st := s_law_rows) l14 c14 k14
  have B14 := F14.binds (ps := ["_law_script", "_law_at", "_law_most", "_law_top"]) fun _ _ _ _ _ _ us hl => match us, hl with | [_, _, _, _], _ => rfl
  have F15 := fun_mk (st := s_law_copied) l15 c15 k15
  have B15 := F15.binds (ps := ["_law_rows_here"]) fun _ _ _ _ _ _ us hl => match us, hl with | [_], _ => rfl
  have F16 := fun_mk (st := s_law_alike) l16 c16 k16
  have B16 := F16.binds (ps := ["_law_found", "_law_due_here"]) fun _ _ _ _ _ _ us hl => match us, hl with | [_, _], _ => rfl
  have F17 := fun_mk (st := s_law_due) l17 c17 k17
  have B17 := F17.binds (ps := ["_law_rows_here"]) fun _ _ _ _ _ _ us hl => match us, hl with | [_], _ => rfl
  have F18 := fun_mk (st := s_law) l18 c18 k18
  have B18 := F18.binds (ps := ["_law_script"]) fun _ _ _ _ _ _ us hl => match us, hl with | [_], _ => rfl
  have zz_NoWord : ExT K mg YS "NoWord" A_NoWord := by
    refine ⟨⟨h1_NoWord, h2_NoWord, ge_NoWord, h3_NoWord, h4_NoWord, hs1, hs2, h5_NoWord⟩, ?_, kit_val h6_NoWord, fun O hO => by cases (PySem.W.mg_of X G ga_OddsError).symm.trans hO; exact exm_own ge_OddsError gi_OddsError gt_OddsError h7_NoWord⟩
    intro y hy Y hY
    cases hy
  have zz_Twice : ExT K mg YS "Twice" A_Twice := by
    refine ⟨⟨h1_Twice, h2_Twice, ge_Twice, h3_Twice, h4_Twice, hs1, hs2, h5_Twice⟩, ?_, kit_val h6_Twice, fun O hO => by cases (PySem.W.mg_of X G ga_OddsError).symm.trans hO; exact exm_own ge_OddsError gi_OddsError gt_OddsError h7_Twice⟩
    intro y hy Y hY
    cases hy
  have zz_WrongSize : ExT K mg YS "WrongSize" A_WrongSize := by
    refine ⟨⟨h1_WrongSize, h2_WrongSize, ge_WrongSize, h3_WrongSize, h4_WrongSize, hs1, hs2, h5_WrongSize⟩, ?_, kit_val h6_WrongSize, fun O hO => by cases (PySem.W.mg_of X G ga_OddsError).symm.trans hO; exact exm_own ge_OddsError gi_OddsError gt_OddsError h7_WrongSize⟩
    intro y hy Y hY
    cases hy
  have zz_NoElder : ExT K mg YS "NoElder" A_NoElder := by
    refine ⟨⟨h1_NoElder, h2_NoElder, ge_NoElder, h3_NoElder, h4_NoElder, hs1, hs2, h5_NoElder⟩, ?_, kit_val h6_NoElder, fun O hO => by cases (PySem.W.mg_of X G ga_OddsError).symm.trans hO; exact exm_own ge_OddsError gi_OddsError gt_OddsError h7_NoElder⟩
    intro y hy Y hY
    cases hy
  have zz_WrongTable : ExT K mg YS "WrongTable" A_WrongTable := by
    refine ⟨⟨h1_WrongTable, h2_WrongTable, ge_WrongTable, h3_WrongTable, h4_WrongTable, hs1, hs2, h5_WrongTable⟩, ?_, kit_val h6_WrongTable, fun O hO => by cases (PySem.W.mg_of X G ga_OddsError).symm.trans hO; exact exm_own ge_OddsError gi_OddsError gt_OddsError h7_WrongTable⟩
    intro y hy Y hY
    cases hy
  let T : Tx K mg := { f_is_word := f0, fd_is_word := _, F_is_word := F0, g_is_word := PySem.W.mg_of X G a0, b_is_word := B0, f_names_of := f1, fd_names_of := _, F_names_of := F1, g_names_of := PySem.W.mg_of X G a1, b_names_of := B1, f_entry_of := f2, fd_entry_of := _, F_entry_of := F2, g_entry_of := PySem.W.mg_of X G a2, b_entry_of := B2, f_values_of := f3, fd_values_of := _, F_values_of := F3, g_values_of := PySem.W.mg_of X G a3, b_values_of := B3, f_whole := f4, fd_whole := _, F_whole := F4, g_whole := PySem.W.mg_of X G a4, b_whole := B4, f_once_each := f5, fd_once_each := _, F_once_each := F5, g_once_each := PySem.W.mg_of X G a5, b_once_each := B5, f_look_at_values := f6, fd_look_at_values := _, F_look_at_values := F6, g_look_at_values := PySem.W.mg_of X G a6, b_look_at_values := B6, f_look_at_elders := f7, fd_look_at_elders := _, F_look_at_elders := F7, g_look_at_elders := PySem.W.mg_of X G a7, b_look_at_elders := B7, f_many_of := f8, fd_many_of := _, F_many_of := F8, g_many_of := PySem.W.mg_of X G a8, b_many_of := B8, f_made := f9, fd_made := _, F_made := F9, g_made := PySem.W.mg_of X G a9, b_made := B9, f_law_cell := f10, fd_law_cell := _, F_law_cell := F10, g_law_cell := PySem.W.mg_of X G a10, b_law_cell := B10, f_law_words := f11, fd_law_words := _, F_law_words := F11, g_law_words := PySem.W.mg_of X G a11, b_law_words := B11, f_law_cuts := f12, fd_law_cuts := _, F_law_cuts := F12, g_law_cuts := PySem.W.mg_of X G a12, b_law_cuts := B12, f_law_shape := f13, fd_law_shape := _, F_law_shape := F13, g_law_shape := PySem.W.mg_of X G a13, b_law_shape := B13, f_law_rows := f14, fd_law_rows := _, F_law_rows := F14, g_law_rows := PySem.W.mg_of X G a14, b_law_rows := B14, f_law_copied := f15, fd_law_copied := _, F_law_copied := F15, g_law_copied := PySem.W.mg_of X G a15, b_law_copied := B15, f_law_alike := f16, fd_law_alike := _, F_law_alike := F16, g_law_alike := PySem.W.mg_of X G a16, b_law_alike := B16, f_law_due := f17, fd_law_due := _, F_law_due := F17, g_law_due := PySem.W.mg_of X G a17, b_law_due := B17, f_law := fa, fd_law := _, F_law := F18, g_law := PySem.W.mg_of X G a18, b_law := B18, n_bool := PySem.W.mg_none_of X G z_bool, n_enumerate := PySem.W.mg_none_of X G z_enumerate, n_int := PySem.W.mg_none_of X G z_int, n_isinstance := PySem.W.mg_none_of X G z_isinstance, n_len := PySem.W.mg_none_of X G z_len, n_list := PySem.W.mg_none_of X G z_list, n_max := PySem.W.mg_none_of X G z_max, n_min := PySem.W.mg_none_of X G z_min, n_range := PySem.W.mg_none_of X G z_range, n_reversed := PySem.W.mg_none_of X G z_reversed, n_str := PySem.W.mg_none_of X G z_str, n_sum := PySem.W.mg_none_of X G z_sum, n_tuple := PySem.W.mg_none_of X G z_tuple, n_zip := PySem.W.mg_none_of X G z_zip, tok_LETTERS := _, c_LETTERS := PySem.W.mg_of X G y_LETTERS, tok_MOST_NAMES := _, c_MOST_NAMES := PySem.W.mg_of X G y_MOST_NAMES, tok_MOST_WAYS := _, c_MOST_WAYS := PySem.W.mg_of X G y_MOST_WAYS, tok_MOST_PARTS := _, c_MOST_PARTS := PySem.W.mg_of X G y_MOST_PARTS, a_OddsError := A_OddsError, g_OddsError := PySem.W.mg_of X G ga_OddsError, x_OddsError := gx_OddsError, k_OddsError := gk_OddsError, e_OddsError := ge_OddsError, t_OddsError := gt_OddsError, i_OddsError := gi_OddsError, a_NoWord := A_NoWord, g_NoWord := PySem.W.mg_of X G ga_NoWord, x_NoWord := gx_NoWord, k_NoWord := gk_NoWord, e_NoWord := ge_NoWord, t_NoWord := gt_NoWord, i_NoWord := gi_NoWord, a_Twice := A_Twice, g_Twice := PySem.W.mg_of X G ga_Twice, x_Twice := gx_Twice, k_Twice := gk_Twice, e_Twice := ge_Twice, t_Twice := gt_Twice, i_Twice := gi_Twice, a_NoElder := A_NoElder, g_NoElder := PySem.W.mg_of X G ga_NoElder, x_NoElder := gx_NoElder, k_NoElder := gk_NoElder, e_NoElder := ge_NoElder, t_NoElder := gt_NoElder, i_NoElder := gi_NoElder, a_WrongSize := A_WrongSize, g_WrongSize := PySem.W.mg_of X G ga_WrongSize, x_WrongSize := gx_WrongSize, k_WrongSize := gk_WrongSize, e_WrongSize := ge_WrongSize, t_WrongSize := gt_WrongSize, i_WrongSize := gi_WrongSize, a_WrongTable := A_WrongTable, g_WrongTable := PySem.W.mg_of X G ga_WrongTable, x_WrongTable := gx_WrongTable, k_WrongTable := gk_WrongTable, e_WrongTable := ge_WrongTable, t_WrongTable := gt_WrongTable, i_WrongTable := gi_WrongTable, a_NoName := A_NoName, g_NoName := PySem.W.mg_of X G ga_NoName, x_NoName := gx_NoName, k_NoName := gk_NoName, e_NoName := ge_NoName, t_NoName := gt_NoName, i_NoName := gi_NoName, z_NoWord := zz_NoWord, z_Twice := zz_Twice, z_WrongSize := zz_WrongSize, z_NoElder := zz_NoElder, z_WrongTable := zz_WrongTable }
  exact ⟨_, fun s v => .of_eq rfl, fun base _ _ => law_imp law_true (okM_law T)⟩
end OD
open PySem PySem.W PyProof.Rows
set_option maxHeartbeats 0 in
theorem PySem.Challenge.cw_oddsnet_k11_a_net_made_holds : PySem.Challenge.rw_oddsnet_k11_a_net_made.Holds := by
  w_on; o_law; k_head; (case hw => w_witness2)
  k_fill
  refine L2.walk_ofB (l := PySem.Challenge.rw_oddsnet_k11_a_net_made) (n := 63) (k := 10) (x := "_law_script") (CX := fun w => L2.CX PySem.Challenge.rw_oddsnet_k11_a_net_made.prog w) (sp := fun w => L2.VL.spLaw _) rfl (by decide) rfl ⟨rfl, by decide, by decide⟩ (fun w h Y => PySem.W.kIn_of Y) ?F (fun w H a ns hl hb hO hS => ⟨a, ns, rfl, hl, hb, hS, fun _ => rfl⟩) (fun w H s e s' h => L2.VL.cx_false h)
  case F =>
    intro w mg fa h KX G hmg
    refine' OD.all_mk KX G hmg ?a0 ?l0 ?c0 ?k0 ?a1 ?l1 ?c1 ?k1 ?a2 ?l2 ?c2 ?k2 ?a3 ?l3 ?c3 ?k3 ?a4 ?l4 ?c4 ?k4 ?a5 ?l5 ?c5 ?k5 ?a6 ?l6 ?c6 ?k6 ?a7 ?l7 ?c7 ?k7 ?a8 ?l8 ?c8 ?k8 ?a9 ?l9 ?c9 ?k9 ?a10 ?l10 ?c10 ?k10 ?a11 ?l11 ?c11 ?k11 ?a12 ?l12 ?c12 ?k12 ?a13 ?l13 ?c13 ?k13 ?a14 ?l14 ?c14 ?k14 ?a15 ?l15 ?c15 ?k15 ?a16 ?l16 ?c16 ?k16 ?a17 ?l17 ?c17 ?k17 ?a18 ?l18 ?c18 ?k18 ?z_bool ?z_enumerate ?z_int ?z_isinstance ?z_len ?z_list ?z_max ?z_min ?z_range ?z_reversed ?z_str ?z_sum ?z_tuple ?z_zip ?y_LETTERS ?y_MOST_NAMES ?y_MOST_WAYS ?y_MOST_PARTS ?ga_OddsError ?gx_OddsError ?gk_OddsError ?ge_OddsError ?gt_OddsError ?gi_OddsError ?ga_NoWord ?gx_NoWord ?gk_NoWord ?ge_NoWord ?gt_NoWord ?gi_NoWord ?ga_Twice ?gx_Twice ?gk_Twice ?ge_Twice ?gt_Twice ?gi_Twice ?ga_NoElder ?gx_NoElder ?gk_NoElder ?ge_NoElder ?gt_NoElder ?gi_NoElder ?ga_WrongSize ?gx_WrongSize ?gk_WrongSize ?ge_WrongSize ?gt_WrongSize ?gi_WrongSize ?ga_WrongTable ?gx_WrongTable ?gk_WrongTable ?ge_WrongTable ?gt_WrongTable ?gi_WrongTable ?ga_NoName ?gx_NoName ?gk_NoName ?ge_NoName ?gt_NoName ?gi_NoName ?h1_NoWord ?h2_NoWord ?h3_NoWord ?h4_NoWord ?h5_NoWord ?h6_NoWord ?h7_NoWord ?h8_NoWord ?h1_Twice ?h2_Twice ?h3_Twice ?h4_Twice ?h5_Twice ?h6_Twice ?h7_Twice ?h8_Twice ?h1_WrongSize ?h2_WrongSize ?h3_WrongSize ?h4_WrongSize ?h5_WrongSize ?h6_WrongSize ?h7_WrongSize ?h8_WrongSize ?h1_NoElder ?h2_NoElder ?h3_NoElder ?h4_NoElder ?h5_NoElder ?h6_NoElder ?h7_NoElder ?h8_NoElder ?h1_WrongTable ?h2_WrongTable ?h3_WrongTable ?h4_WrongTable ?h5_WrongTable ?h6_WrongTable ?h7_WrongTable ?h8_WrongTable ?hs1 ?hs2
    (case a0 => k_is); (case l0 => k_is); (case c0 => k_is); (case k0 => k_is); (case a1 => k_is); (case l1 => k_is); (case c1 => k_is); (case k1 => k_is)
    (case a2 => k_is); (case l2 => k_is); (case c2 => k_is); (case k2 => k_is); (case a3 => k_is); (case l3 => k_is); (case c3 => k_is); (case k3 => k_is)
    (case a4 => k_is); (case l4 => k_is); (case c4 => k_is); (case k4 => k_is); (case a5 => k_is); (case l5 => k_is); (case c5 => k_is); (case k5 => k_is)
    (case a6 => k_is); (case l6 => k_is); (case c6 => k_is); (case k6 => k_is); (case a7 => k_is); (case l7 => k_is); (case c7 => k_is); (case k7 => k_is)
    (case a8 => k_is); (case l8 => k_is); (case c8 => k_is); (case k8 => k_is); (case a9 => k_is); (case l9 => k_is); (case c9 => k_is); (case k9 => k_is)
    (case a10 => k_is); (case l10 => k_is); (case c10 => k_is); (case k10 => k_is); (case a11 => k_is); (case l11 => k_is); (case c11 => k_is); (case k11 => k_is)
    (case a12 => k_is); (case l12 => k_is); (case c12 => k_is); (case k12 => k_is); (case a13 => k_is); (case l13 => k_is); (case c13 => k_is); (case k13 => k_is)
    (case a14 => k_is); (case l14 => k_is); (case c14 => k_is); (case k14 => k_is); (case a15 => k_is); (case l15 => k_is); (case c15 => k_is); (case k15 => k_is)
    (case a16 => k_is); (case l16 => k_is); (case c16 => k_is); (case k16 => k_is); (case a17 => k_is); (case l17 => k_is); (case c17 => k_is); (case k17 => k_is)
    (case a18 => k_is); (case l18 => k_is); (case c18 => k_is); (case k18 => k_is); (case z_bool => k_is); (case z_enumerate => k_is); (case z_int => k_is); (case z_isinstance => k_is)
    (case z_len => k_is); (case z_list => k_is); (case z_max => k_is); (case z_min => k_is); (case z_range => k_is); (case z_reversed => k_is); (case z_str => k_is); (case z_sum => k_is)
    (case z_tuple => k_is); (case z_zip => k_is); (case y_LETTERS => k_is); (case y_MOST_NAMES => k_is); (case y_MOST_WAYS => k_is); (case y_MOST_PARTS => k_is); (case ga_OddsError => k_is); (case gx_OddsError => k_exc)
    (case gk_OddsError => k_is); (case ge_OddsError => k_is); (case gt_OddsError => k_is); (case gi_OddsError => k_is); (case ga_NoWord => k_is); (case gx_NoWord => k_exc); (case gk_NoWord => k_is); (case ge_NoWord => k_is)
    (case gt_NoWord => k_is); (case gi_NoWord => k_is); (case ga_Twice => k_is); (case gx_Twice => k_exc); (case gk_Twice => k_is); (case ge_Twice => k_is); (case gt_Twice => k_is); (case gi_Twice => k_is)
    (case ga_NoElder => k_is); (case gx_NoElder => k_exc); (case gk_NoElder => k_is); (case ge_NoElder => k_is); (case gt_NoElder => k_is); (case gi_NoElder => k_is); (case ga_WrongSize => k_is); (case gx_WrongSize => k_exc)
    (case gk_WrongSize => k_is); (case ge_WrongSize => k_is); (case gt_WrongSize => k_is); (case gi_WrongSize => k_is); (case ga_WrongTable => k_is); (case gx_WrongTable => k_exc); (case gk_WrongTable => k_is); (case ge_WrongTable => k_is)
    (case gt_WrongTable => k_is); (case gi_WrongTable => k_is); (case ga_NoName => k_is); (case gx_NoName => k_exc); (case gk_NoName => k_is); (case ge_NoName => k_is); (case gt_NoName => k_is); (case gi_NoName => k_is)
    (case h1_NoWord => k_is); (case h2_NoWord => k_is); (case h3_NoWord => k_is); (case h4_NoWord => k_is); (case h5_NoWord => k_is); (case h6_NoWord => k_is); (case h7_NoWord => k_is); (case h8_NoWord => k_is)
    (case h1_Twice => k_is); (case h2_Twice => k_is); (case h3_Twice => k_is); (case h4_Twice => k_is); (case h5_Twice => k_is); (case h6_Twice => k_is); (case h7_Twice => k_is); (case h8_Twice => k_is)
    (case h1_WrongSize => k_is); (case h2_WrongSize => k_is); (case h3_WrongSize => k_is); (case h4_WrongSize => k_is); (case h5_WrongSize => k_is); (case h6_WrongSize => k_is); (case h7_WrongSize => k_is); (case h8_WrongSize => k_is)
    (case h1_NoElder => k_is); (case h2_NoElder => k_is); (case h3_NoElder => k_is); (case h4_NoElder => k_is); (case h5_NoElder => k_is); (case h6_NoElder => k_is); (case h7_NoElder => k_is); (case h8_NoElder => k_is)
    (case h1_WrongTable => k_is); (case h2_WrongTable => k_is); (case h3_WrongTable => k_is); (case h4_WrongTable => k_is); (case h5_WrongTable => k_is); (case h6_WrongTable => k_is); (case h7_WrongTable => k_is); (case h8_WrongTable => k_is)
    (case hs1 => k_is); (case hs2 => k_is)

