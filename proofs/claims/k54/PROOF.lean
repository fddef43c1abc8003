import PyProof.Rows.All
import Wide.All
import OpenK.AllK
import Wide.FinOn
import HandS.ForMost
import HandS.ForExc
import HandS.Deep
import HandS.Zip
import HandS.TupAny
import HandS.WideBits
import HandS.Wide
import HandS.Conv
import HandS.IsInst
import KE.SortData
import HandS.TupSets
import HandS.EndBits
import KE.DataMinMax
import KE.KDictSum
import HandS.TupLen
import HandS.DictTup
import PyProof.DictMoreH
import HandS.DictEq
import HandS.Iter
import HandS.ExcOwn
import HandS.TryOnly
import HandS.ExcIs
import KE.SortKeyHeap
import HandS.SortKw
import PySem.Challenge.RW_edgemoss_k54_sets_crossed
import HandS.ExcInit
import HandS.ExcField
import HandS.ExcValue
import HandS.Codes
import OpenK.KMake
import KE.DataFind
set_option Elab.async false
set_option linter.all false
set_option maxRecDepth 100000
set_option maxHeartbeats 4000000
namespace E3
open PySem PySem.Spec PyProof.Rows L2
abbrev D := PyData
abbrev DS := List (Option D)
def LsQ (K : PySem.W.Frag) (H : Hp) (a : Addr) (xs : List V) : Prop :=
  Rd H a (.lst xs) ∨ ∃ (its : Array Value) (n : Nat), K.lookup a = some { cls := .type "list", data := .seq its n } ∧ its.size ≤ sizeLine ∧ Vals xs its.toList
theorem LsQ.sq {K : PySem.W.Frag} {H : Hp} {a : Addr} {xs : List V} (h : LsQ K H a xs) : SqL K H a xs := by
  rcases h with h | ⟨its, n, h1, h2, h3⟩
  · exact .inl h
  · exact .inr ⟨_, its, n, h1, rfl, rfl, rfl, h2, h3⟩
theorem LsQ.at {X : Cx} {pins : List (Addr × Obj)} {σ : L2.St} {H : Hp} {s : Shared} {a : Addr} {xs : List V} (h : LsQ X.K H a xs) (I : Inv X pins σ H s) :
    xs.length ≤ sizeLine ∧ ∃ (its : List Value) (n : Nat), Vals xs its ∧ s.heap.get? a = some { cls := .type "list", data := .seq its.toArray n } := by
  rcases h with h | ⟨its, n, h1, h2, h3⟩
  · obtain ⟨z, i1, n, r, e⟩ := h.ok I.hok
    exact ⟨z, i1, n, r, e⟩
  · refine ⟨?_, its.toList, n, h3, by simpa using I.kIn a _ h1⟩
    have := h3.length
    simp only [Array.length_toList] at this
    omega
def ErO (C a : Addr) (d : Option Addr) : Heap → Prop := fun h => ∃ oe vs, h.get? a = some oe ∧ Zc (.ref C) d oe ∧ oe.data = .fields vs
inductive ObT (K : PySem.W.Frag) (H : Hp) (a : Addr) (x : Str) : D → List (Str × V) → Prop
  | er {C : Addr} : PySem.W.nsIn K mainGlobals x = some (some (.ref C)) → H a = some (.ext (ErO C a none)) → ObT K H a x .none []
  | erf {C b : Addr} {f : Str} {v : V} : PySem.W.nsIn K mainGlobals x = some (some (.ref C)) → H a = some (.ext (ErO C a (some b))) → H b = some (.xd [(f, v)]) → ObT K H a x .none [(f, v)]
  | ins {C : Addr} {dx : Addr} {fs : List (Str × V)} : PySem.W.nsIn K mainGlobals x = some (some (.ref C)) → H a = some (.ins C dx fs) → ObT K H a x (.bool true) fs
  | wt {o : Obj} {its : Array Value} {n : Nat} {vs : List V} : K.lookup a = some o → o.cls = .type "tuple" → o.data = .seq its n → its.size ≤ sizeLine → Vals vs its.toList → ObT K H a x (.bool false) (vs.map fun v => (x, v))
mutual
inductive Rp (K : PySem.W.Frag) (H : Hp) : V → D → Prop
  | non : Rp K H .non .none
  | bl (b : Bool) : Rp K H (.bl b) (.bool b)
  | int (i : Int) : Rp K H (.int i) (.int i)
  | str (x : Str) : Rp K H (.str x) (.str x)
  | lst {a : Addr} {xs : List V} {ds : List D} : LsQ K H a xs → RpA K H xs ds → Rp K H (.ref a) (.list ds)
  | tup {a : Addr} {xs : List V} {ds : List D} : H a = some (.tup xs) → RpA K H xs ds → Rp K H (.ref a) (.tuple ds)
  | dT {a : Addr} {kvs : List (List Key × V)} {ds : List (D × D)} : Rd H a (.dT kvs) → RpK K H kvs ds → Rp K H (.ref a) (.dict ds)
  | ob {a : Addr} {x : Str} {k : D} {vs : List (Str × V)} {kvs : List (D × D)} : ObT K H a x k vs → RpF K H vs kvs → Rp K H (.ref a) (.dict ((k, .str x) :: kvs))
inductive RpA (K : PySem.W.Frag) (H : Hp) : List V → List D → Prop
  | nil : RpA K H [] []
  | cons {v : V} {vs : List V} {d : D} {ds : List D} : Rp K H v d → RpA K H vs ds → RpA K H (v :: vs) (d :: ds)
inductive RpK (K : PySem.W.Frag) (H : Hp) : List (List Key × V) → List (D × D) → Prop
  | nil : RpK K H [] []
  | cons {k : List Int} {v : V} {kvs : List (List Key × V)} {d : D} {ds : List (D × D)} : Rp K H v d → RpK K H kvs ds → RpK K H ((k.map Sum.inl, v) :: kvs) ((.tuple (k.map .int), d) :: ds)
inductive RpF (K : PySem.W.Frag) (H : Hp) : List (Str × V) → List (D × D) → Prop
  | nil : RpF K H [] []
  | cons {n : Str} {v : V} {vs : List (Str × V)} {d : D} {ds : List (D × D)} : Rp K H v d → RpF K H vs ds → RpF K H ((n, v) :: vs) ((.str n, d) :: ds)
end
def obK : List (D × D) → Bool
  | (.none, _) :: _ => true
  | (.bool _, _) :: _ => true
  | _ => false
theorem RpK.noOb {K : PySem.W.Frag} {H : Hp} {vs : List (List Key × V)} {ds : List (D × D)} (h : RpK K H vs ds) : obK ds = false := by cases h <;> rfl
theorem seqT_same {K : PySem.W.Frag} {H H' : Hp} {a : Addr} {xs : List V} (e : Same H H') (h : SqT K H a xs) : SqT K H' a xs := by
  rcases h with (h | ⟨o, h⟩) | h
  · exact .inl (.inl (e _ _ h))
  · exact .inl (.inr ⟨o, e _ _ h⟩)
  · exact .inr h
theorem ls_same {K : PySem.W.Frag} {H H' : Hp} {a : Addr} {xs : List V} (e : Same H H') (h : LsQ K H a xs) : LsQ K H' a xs := by
  rcases h with (h | ⟨o, h⟩) | h
  · exact .inl (.inl (e _ _ h))
  · exact .inl (.inr ⟨o, e _ _ h⟩)
  · exact .inr h
theorem rd_same {H H' : Hp} {a : Addr} {u : HO} (e : Same H H') (h : Rd H a u) : Rd H' a u := by
  rcases h with h | ⟨o, h⟩
  · exact .inl (e _ _ h)
  · exact .inr ⟨o, e _ _ h⟩
theorem ob_same {K : PySem.W.Frag} {H H' : Hp} {a : Addr} {x : Str} {k : D} {vs : List (Str × V)} (e : Same H H') (h : ObT K H a x k vs) : ObT K H' a x k vs := by
  cases h with
  | er h1 h2 => exact .er h1 (e _ _ h2)
  | erf h1 h2 h3 => exact .erf h1 (e _ _ h2) (e _ _ h3)
  | ins h1 h2 => exact .ins h1 (e _ _ h2)
  | wt h1 h2 h3 h4 h5 => exact .wt h1 h2 h3 h4 h5
section
variable {K : PySem.W.Frag} {H H' : Hp}
mutual
theorem Rp.mono (e : Same H H') : ∀ {v : V} {d : D}, Rp K H v d → Rp K H' v d
  | _, _, .non => .non
  | _, _, .bl b => .bl b
  | _, _, .int i => .int i
  | _, _, .str x => .str x
  | _, _, .lst h r => .lst (ls_same e h) (RpA.mono e r)
  | _, _, .tup h r => .tup (e _ _ h) (RpA.mono e r)
  | _, _, .dT h r => .dT (rd_same e h) (RpK.mono e r)
  | _, _, .ob h r => .ob (ob_same e h) (RpF.mono e r)
theorem RpA.mono (e : Same H H') : ∀ {vs : List V} {ds : List D}, RpA K H vs ds → RpA K H' vs ds
  | _, _, .nil => .nil
  | _, _, .cons h r => .cons (Rp.mono e h) (RpA.mono e r)
theorem RpK.mono (e : Same H H') : ∀ {vs : List (List Key × V)} {ds : List (D × D)}, RpK K H vs ds → RpK K H' vs ds
  | _, _, .nil => .nil
  | _, _, .cons h r => .cons (Rp.mono e h) (RpK.mono e r)
theorem RpF.mono (e : Same H H') : ∀ {vs : List (Str × V)} {ds : List (D × D)}, RpF K H vs ds → RpF K H' vs ds
  | _, _, .nil => .nil
  | _, _, .cons h r => .cons (Rp.mono e h) (RpF.mono e r)
end
theorem RpA.length : ∀ {vs : List V} {ds : List D}, RpA K H vs ds → vs.length = ds.length
  | _, _, .nil => rfl
  | _, _, .cons _ r => by rw [List.length_cons, List.length_cons, r.length]
theorem RpA.get : ∀ {vs : List V} {ds : List D} {i : Nat} {d : D}, RpA K H vs ds → ds[i]? = some d → ∃ v, vs[i]? = some v ∧ Rp K H v d
  | _, _, _, _, .nil, e => by simp at e
  | _, _, 0, _, .cons h _, e => by simp at e; subst e; exact ⟨_, rfl, h⟩
  | _, _, i + 1, d, .cons _ r, e => by
    obtain ⟨v, h1, h2⟩ := RpA.get (i := i) (d := d) r (by simpa using e)
    exact ⟨v, by simpa using h1, h2⟩
theorem RpA.append : ∀ {vs ws : List V} {ds es : List D}, RpA K H vs ds → RpA K H ws es → RpA K H (vs ++ ws) (ds ++ es)
  | _, _, _, _, .nil, s => s
  | _, _, _, _, .cons h r, s => .cons h (r.append s)
theorem RpA.take : ∀ {vs : List V} {ds : List D} (n : Nat), RpA K H vs ds → RpA K H (vs.take n) (ds.take n)
  | _, _, 0, _ => .nil
  | _, _, _ + 1, .nil => .nil
  | _, _, n + 1, .cons h r => .cons h (r.take n)
theorem RpA.drop : ∀ {vs : List V} {ds : List D} (n : Nat), RpA K H vs ds → RpA K H (vs.drop n) (ds.drop n)
  | _, _, 0, r => r
  | _, _, _ + 1, .nil => .nil
  | _, _, n + 1, .cons _ r => r.drop n
theorem RpA.set {v : V} {d : D} (h : Rp K H v d) : ∀ {vs : List V} {ds : List D} (i : Nat), RpA K H vs ds → RpA K H (vs.set i v) (ds.set i d)
  | _, _, _, .nil => .nil
  | _, _, 0, .cons _ r => .cons h r
  | _, _, i + 1, .cons q r => .cons q (r.set h i)
theorem RpA.ints : ∀ (ns : List Int), RpA K H (ns.map V.int) (ns.map .int)
  | [] => .nil
  | n :: r => .cons (.int n) (RpA.ints r)
theorem RpA.ints_inv : ∀ {vs : List V} {ns : List Int}, RpA K H vs (ns.map .int) → vs = ns.map V.int
  | [], [], _ => rfl
  | v :: vs, n :: r, h => by
    cases h with
    | cons h1 h2 =>
      cases h1
      rw [List.map_cons, RpA.ints_inv h2]
  | [], _ :: _, h => by cases h
  | _ :: _, [], h => by cases h
end
def wtD (ds : List D) : D := .dict ((.bool false, .str "tuple") :: ds.map fun d => (.str "tuple", d))
theorem RpF.wt {K : PySem.W.Frag} {H : Hp} {x : Str} : ∀ {vs : List V} {ds : List D}, RpA K H vs ds → RpF K H (vs.map fun v => (x, v)) (ds.map fun d => (.str x, d))
  | _, _, .nil => .nil
  | _, _, .cons h r => .cons h (RpF.wt r)
theorem RpF.wt_inv {K : PySem.W.Frag} {H : Hp} {x : Str} : ∀ {vs : List V} {kvs : List (D × D)}, RpF K H (vs.map fun v => (x, v)) kvs → RpA K H vs (kvs.map Prod.snd)
  | [], _, h => by cases h; exact .nil
  | v :: vs, _, h => by
    cases h with
    | cons q r => exact .cons q (RpF.wt_inv r)
theorem Rp.wt {K : PySem.W.Frag} {H : Hp} {a : Addr} {o : Obj} {its : Array Value} {n : Nat} {vs : List V} {ds : List D} (h1 : K.lookup a = some o) (h2 : o.cls = .type "tuple") (h3 : o.data = .seq its n) (h4 : its.size ≤ sizeLine) (h5 : Vals vs its.toList) (h : RpA K H vs ds) : Rp K H (.ref a) (wtD ds) :=
  .ob (.wt h1 h2 h3 h4 h5) (RpF.wt h)
theorem wt_inv {K : PySem.W.Frag} {R H : Hp} {v : V} {y : Str} {kvs : List (D × D)} (h : Rp K R v (.dict ((.bool false, .str y) :: kvs))) : ∃ a xs, v = .ref a ∧ (∀ H', SqT K H' a xs) ∧ RpA K R xs (kvs.map Prod.snd) := by
  cases h with
  | dT h1 h2 => cases h2
  | ob h1 h2 =>
    cases h1 with
    | wt k1 k2 k3 k4 k5 => exact ⟨_, _, rfl, fun H' => .inr ⟨_, _, _, k1, k2, k3, k4, k5⟩, RpF.wt_inv h2⟩
mutual
def flat : D → Bool
  | .list _ => false
  | .tuple xs => flatA xs
  | .dict _ => false
  | _ => true
def flatA : List D → Bool
  | [] => true
  | x :: r => flat x && flatA r
end
section
variable {K : PySem.W.Frag} {H H' : Hp}
mutual
theorem Rp.dp : ∀ {v : V} {d : D}, Rp K H v d → d.canLay0 = true → Dp K H v d
  | _, _, .non, _ => .non
  | _, _, .bl b, _ => .bl b
  | _, _, .int i, _ => .int i
  | _, _, .str x, _ => .str x
  | _, _, .lst h r, q => .lst h.sq (RpA.dp r (by simpa [PyData.canLay0] using q))
  | _, _, .tup h r, q => .tup (SqT.of h) (RpA.dp r (by simpa [PyData.canLay0] using q))
  | _, _, .dT _ _, q => by simp [PyData.canLay0] at q
  | _, _, .ob _ _, q => by simp [PyData.canLay0] at q
theorem RpA.dp : ∀ {vs : List V} {ds : List D}, RpA K H vs ds → PyData.canLayAll0 ds = true → DpAll K H vs ds
  | _, _, .nil, _ => .nil
  | _, _, .cons h r, q => .cons (h.dp (by simp [PyData.canLayAll0] at q; exact q.1)) (RpA.dp r (by simp [PyData.canLayAll0] at q; exact q.2))
end
def Tups (H H' : Hp) : Prop := ∀ a xs, H a = some (.tup xs) → H' a = some (.tup xs)
mutual
theorem Rp.flat (e : Tups H H') : ∀ {v : V} {d : D}, Rp K H v d → flat d = true → Rp K H' v d
  | _, _, .non, _ => .non
  | _, _, .bl b, _ => .bl b
  | _, _, .int i, _ => .int i
  | _, _, .str x, _ => .str x
  | _, _, .lst _ _, q => by cases q
  | _, _, .tup h r, q => .tup (e _ _ h) (RpA.flat e r q)
  | _, _, .dT _ _, q => by cases q
  | _, _, .ob _ _, q => by cases q
theorem RpA.flat (e : Tups H H') : ∀ {vs : List V} {ds : List D}, RpA K H vs ds → flatA ds = true → RpA K H' vs ds
  | _, _, .nil, _ => .nil
  | _, _, .cons h r, q => .cons (h.flat e (Bool.and_eq_true_iff.mp q).1) (RpA.flat e r (Bool.and_eq_true_iff.mp q).2)
end
end
structure Ext (R H R' H' : Hp) : Prop where
  rr : Same R R'
  sub : Same R' H'
  hh : Same H H'
  new : ∀ a o, R' a = some o → R a = some o ∨ H a = none ∨ ∃ xs, o = .tup xs
theorem Ext.refl {R H : Hp} (s : Same R H) : Ext R H R H := ⟨Same.refl _, s, Same.refl _, fun _ _ h => .inl h⟩
theorem Ext.trans {R H R1 H1 R2 H2 : Hp} (a : Ext R H R1 H1) (b : Ext R1 H1 R2 H2) : Ext R H R2 H2 :=
  ⟨a.rr.trans b.rr, b.sub, a.hh.trans b.hh, fun c o q => by
    rcases b.new c o q with z | z | z
    · exact a.new c o z
    · exact .inr (.inl (a.hh.free z))
    · exact .inr (.inr z)⟩
theorem same_new {H : Hp} {p : Addr} {o : HO} (h : H p = none) : Same H (upd H p o) := fun b x e => by
  rw [upd_ne (ne_of_none e h)]; exact e
theorem Ext.alloc {R H : Hp} {p : Addr} {o : HO} (s : Same R H) (h : H p = none) : Ext R H (upd R p o) (upd H p o) := by
  refine ⟨same_new (s.free h), fun b x e => ?_, same_new h, fun b x e => ?_⟩
  · by_cases hb : b = p
    · subst hb; rw [upd_same] at e ⊢; exact e
    · rw [upd_ne hb] at e ⊢; exact s _ _ e
  · by_cases hb : b = p
    · subst hb; exact .inr (.inl h)
    · rw [upd_ne hb] at e; exact .inl e
theorem Ext.allocH {R H : Hp} {p : Addr} {o : HO} (s : Same R H) (h : H p = none) : Ext R H R (upd H p o) :=
  ⟨Same.refl _, s.trans (same_new h), same_new h, fun _ _ q => .inl q⟩
structure Exn where
  cls : Str
  fld : Option (Str × D)
inductive Res (α : Type) where
  | ok (a : α)
  | exc (e : Exn)
  | stuck
def Res.bind {α β : Type} : Res α → (α → Res β) → Res β
  | .ok a, f => f a
  | .exc e, _ => .exc e
  | .stuck, _ => .stuck
def Res.map {α β : Type} (f : α → β) : Res α → Res β
  | .ok a => .ok (f a)
  | .exc e => .exc e
  | .stuck => .stuck
@[simp] theorem Res.bind_ok {α β : Type} (a : α) (f : α → Res β) : (Res.ok a).bind f = f a := rfl
@[simp] theorem Res.bind_exc {α β : Type} (e : Exn) (f : α → Res β) : (Res.exc e).bind f = .exc e := rfl
@[simp] theorem Res.bind_stuck {α β : Type} (f : α → Res β) : (Res.stuck : Res α).bind f = .stuck := rfl
@[simp] theorem Res.map_ok {α β : Type} (a : α) (f : α → β) : (Res.ok a).map f = .ok (f a) := rfl
def ExR (K : PySem.W.Frag) (mg : Str → Option Value) (x : Exn) (c : Value) (dx : Option Addr) (H' : Hp) : Prop :=
  mg x.cls = some c ∧ match x.fld with
    | none => dx = none
    | some (f, d) => ∃ a v, dx = some a ∧ H' a = some (.xd [(f, v)]) ∧ Rp K H' v d
structure ExL (K : PySem.W.Frag) (mg : Str → Option Value) (H : Hp) (x : Exn) (c : Value) (dx : Option Addr) (H' : Hp) : Prop where
  er : ExR K mg x c dx H'
  late : ∀ b, dx = some b → H b = none
theorem ExL.back {K : PySem.W.Frag} {mg : Str → Option Value} {H H1 H' : Hp} {x : Exn} {c : Value} {dx : Option Addr} (h : ExL K mg H1 x c dx H') (e : Same H H1) : ExL K mg H x c dx H' := ⟨h.er, fun b z => e.free (h.late b z)⟩
section
variable {α β : Type}
def Post (K : PySem.W.Frag) (mg : Str → Option Value) (Ex : XK) (rel : Hp → β → α → Prop) (R H : Hp) (Q : β → Hp → Prop) : Res α → Prop
  | .ok d => ∀ v R' H', Ext R H R' H' → rel R' v d → Q v H'
  | .exc x => ∀ c dx H', Same H H' → ExL K mg H x c dx H' → Ex c dx H'
  | .stuck => False
theorem Post.step {K : PySem.W.Frag} {mg : Str → Option Value} {Ex : XK} {rel : Hp → β → α → Prop} {R H R1 H1 : Hp} {Q : β → Hp → Prop} {r : Res α} (e : Ext R H R1 H1) (h : Post K mg Ex rel R H Q r) : Post K mg Ex rel R1 H1 Q r := by
  cases r with
  | ok d => exact fun v R' H' x q => h v R' H' (e.trans x) q
  | exc x => exact fun c dx H' s q => h c dx H' (e.hh.trans s) (q.back e.hh)
  | stuck => exact h
theorem Post.now {K : PySem.W.Frag} {mg : Str → Option Value} {Ex : XK} {rel : Hp → β → α → Prop} {R H : Hp} {Q : β → Hp → Prop} {d : α} {v : β} (s : Same R H) (q : rel R v d) (h : Post K mg Ex rel R H Q (.ok d)) : Q v H := h v R H (Ext.refl s) q
end
structure RS (K : PySem.W.Frag) (R : Hp) (σ : DS) (τ : L2.St) : Prop where
  get : ∀ (i : Nat) (d : D), σ[i]? = some (some d) → ∃ v, τ[i]? = some (some v) ∧ Rp K R v d
  len : σ.length = τ.length
theorem RS.mono {K : PySem.W.Frag} {R R' : Hp} {σ : DS} {τ : L2.St} (e : Same R R') (h : RS K R σ τ) : RS K R' σ τ := ⟨fun i d q => by
  obtain ⟨v, a, b⟩ := h.get i d q
  exact ⟨v, a, b.mono e⟩, h.len⟩
abbrev rV (K : PySem.W.Frag) : Hp → V → D → Prop := fun R v d => Rp K R v d
abbrev rA (K : PySem.W.Frag) : Hp → List V → List D → Prop := fun R v d => RpA K R v d
abbrev rB : Hp → Bool → Bool → Prop := fun _ b c => b = c
abbrev xat (E : WX) (τ : L2.St) : XK := fun c d H => E c d τ H
structure DE (X : Cx) (E : WX) (e : Expr) (f : DS → Res D) : Prop where
  run : ∃ t : TE, PE X e t ∧ ∀ (σ : DS) (τ : L2.St) (R H : Hp) (Q : VK), RS X.K R σ τ → Same R H → Post X.K X.mg (xat E τ) (rV X.K) R H Q (f σ) → t τ H Q
structure DA (X : Cx) (E : WX) (es : List Expr) (f : DS → Res (List D)) : Prop where
  run : ∃ t : TA, PA X es t ∧ ∀ (σ : DS) (τ : L2.St) (R H : Hp) (Q : List V → Hp → Prop), RS X.K R σ τ → Same R H → Post X.K X.mg (xat E τ) (rA X.K) R H Q (f σ) → t τ H Q
structure DT (X : Cx) (E : WX) (e : Expr) (f : DS → Res Bool) : Prop where
  run : ∃ t : TT, PT X e t ∧ ∀ (σ : DS) (τ : L2.St) (R H : Hp) (Q : Bool → Hp → Prop), RS X.K R σ τ → Same R H → Post X.K X.mg (xat E τ) rB R H Q (f σ) → t τ H Q
structure DW (X : Cx) (E : WX) (e : Expr) (f : DS → Res Bool) : Prop where
  run : ∃ t : TT, PW X e t ∧ ∀ (σ : DS) (τ : L2.St) (R H : Hp) (Q : Bool → Hp → Prop), RS X.K R σ τ → Same R H → Post X.K X.mg (xat E τ) rB R H Q (f σ) → t τ H Q
def eVar (i : Nat) : DS → Res D := fun σ => match σ[i]? with
  | some (some d) => .ok d
  | _ => .stuck
def eC (d : D) : DS → Res D := fun _ => .ok d
section
variable {X : Cx} {E : WX} {Ex : XK}
theorem de_var (i : Nat) {x : Str} {pos : Pos} (hN : X.N[i]? = some x := by rfl) (hv : Vis X.env.scope x := by first | exact Or.inl rfl | exact Or.inr (Or.inl rfl) | exact Or.inr (Or.inr rfl)) (hd : (x == ("__debug__" : Str)) = false := by decide)
    (hcd : (x == ("__classdict__" : Str)) = false := by decide) : DE X E (.Name x pos) (eVar i) := by
  refine ⟨_, pe_var hN hv hd hcd, fun σ τ R H Q hs s h => ?_⟩
  unfold eVar at h
  cases q : σ[i]? with
  | none => rw [q] at h; exact h.elim
  | some o =>
    cases o with
    | none => rw [q] at h; exact h.elim
    | some d =>
      rw [q] at h
      obtain ⟨v, e1, e2⟩ := hs.get i d q
      exact ⟨v, e1, Post.now s e2 h⟩
theorem de_int {i j pos} : DE X E (.Constant (.int i) j pos) (eC (.int i)) := ⟨_, pe_int, fun _ _ _ _ _ _ s h => Post.now s (Rp.int i) h⟩
theorem de_bl {b j pos} : DE X E (.Constant (.bool b) j pos) (eC (.bool b)) := ⟨_, pe_bl, fun _ _ _ _ _ _ s h => Post.now s (Rp.bl b) h⟩
theorem de_glob {x : Str} {v : V} {u : Value} {d : D} {pos : Pos} (hg : Gl X x) (hm : X.mg x = some u) (r : RelV v u) (hd : ∀ R, Rp X.K R v d) (hdb : (x == ("__debug__" : Str)) = false := by decide) : DE X E (.Name x pos) (eC d) :=
  ⟨_, pe_glob hg hm r hdb, fun _ _ _ _ _ _ s h => Post.now s (hd _) h⟩
theorem post_bind {α β γ δ : Type} {rel : Hp → β → α → Prop} {rel' : Hp → δ → γ → Prop} {R H : Hp} {Q : δ → Hp → Prop} {r : Res α} {g : α → Res γ} {T : β → Hp → Prop} (s : Same R H) (h : Post X.K X.mg Ex rel' R H Q (r.bind g))
    (k : ∀ d v R' H', Ext R H R' H' → rel R' v d → Post X.K X.mg Ex rel' R' H' Q (g d) → T v H') : Post X.K X.mg Ex rel R H T r := by
  cases r with
  | ok d => exact fun v R' H' e q => k d v R' H' e q (h.step e)
  | exc x => exact h
  | stuck => exact h
def e2 (o : D → D → Res D) (f g : DS → Res D) : DS → Res D := fun σ => (f σ).bind fun x => (g σ).bind fun y => o x y
def e1 (o : D → Res D) (f : DS → Res D) : DS → Res D := fun σ => (f σ).bind o
def OpD (X : Cx) (f : Value → Value → Sem Value) (o : D → D → Res D) : Prop :=
  ∃ r : R2, OpR X f r ∧ ∀ (v w : V) (x y : D) (R H : Hp) (Q : VK) (Ex : XK), Rp X.K R v x → Rp X.K R w y → Same R H → Post X.K X.mg Ex (rV X.K) R H Q (o x y) → r v w H Q
def UnD (X : Cx) (f : Value → Sem Value) (o : D → Res D) : Prop :=
  ∃ r : V → Hp → VK → Prop, UnR X f r ∧ ∀ (v : V) (x : D) (R H : Hp) (Q : VK) (Ex : XK), Rp X.K R v x → Same R H → Post X.K X.mg Ex (rV X.K) R H Q (o x) → r v H Q
variable {a b c : Expr} {f g k : DS → Res D} {pos : Pos}
theorem two_run {ta tb : TE} {σ : DS} {τ : L2.St} {R H : Hp} {Q : VK} {o : D → D → Res D} {r : V → V → Hp → VK → Prop} (ha : ∀ (σ : DS) (τ : L2.St) (R H : Hp) (Q : VK), RS X.K R σ τ → Same R H → Post X.K X.mg (xat E τ) (rV X.K) R H Q (f σ) → ta τ H Q)
    (hb : ∀ (σ : DS) (τ : L2.St) (R H : Hp) (Q : VK), RS X.K R σ τ → Same R H → Post X.K X.mg (xat E τ) (rV X.K) R H Q (g σ) → tb τ H Q)
    (ho : ∀ (v w : V) (x y : D) (R H : Hp) (Q : VK) (Ex : XK), Rp X.K R v x → Rp X.K R w y → Same R H → Post X.K X.mg Ex (rV X.K) R H Q (o x y) → r v w H Q)
    (hs : RS X.K R σ τ) (s : Same R H) (h : Post X.K X.mg (xat E τ) (rV X.K) R H Q (e2 o f g σ)) : ta τ H fun x H1 => tb τ H1 fun y H2 => r x y H2 Q := by
  refine ha σ τ R H _ hs s (post_bind s h fun x v R1 H1 e1 q1 h1 => ?_)
  refine hb σ τ R1 H1 _ (hs.mono e1.rr) e1.sub (post_bind e1.sub h1 fun y w R2 H2 e2 q2 h2 => ?_)
  exact ho v w x y R2 H2 Q _ (q1.mono e2.rr) q2 e2.sub h2
theorem de_op {op : Operator} {o : D → D → Res D} (ho : OpD X (binaryOp op) o) (ha : DE X E a f) (hb : DE X E b g) : DE X E (.BinOp a op b pos) (e2 o f g) := by
  obtain ⟨r, hr, q⟩ := ho
  obtain ⟨ta, pa, qa⟩ := ha
  obtain ⟨tb, pb, qb⟩ := hb
  exact ⟨_, pe_op hr pa pb, fun σ τ R H Q hs s h => two_run (r := r) qa qb q hs s h⟩
theorem de_un {op : UnaryOp} {o : D → Res D} (ho : UnD X (unaryOp op) o) (ha : DE X E a f) : DE X E (.UnaryOp op a pos) (e1 o f) := by
  obtain ⟨r, hr, q⟩ := ho
  obtain ⟨ta, pa, qa⟩ := ha
  exact ⟨_, pe_un hr pa, fun σ τ R H Q hs s h => qa σ τ R H _ hs s (post_bind s h fun x v R1 H1 e1 q1 h1 => q v x R1 H1 Q _ q1 e1.sub h1)⟩
theorem de_cmp {op : CmpOp} {o : D → D → Res D} (ho : OpD X (compareOp op) o) (ha : DE X E a f) (hb : DE X E b g) (hm : behindInMarks op b = false := by first | exact nobehind _ (by decide) (by decide) | rfl) : DE X E (.Compare a [op] [b] pos) (e2 o f g) := by
  obtain ⟨r, hr, q⟩ := ho
  obtain ⟨ta, pa, qa⟩ := ha
  obtain ⟨tb, pb, qb⟩ := hb
  exact ⟨_, pe_cmpR hr pa pb hm, fun σ τ R H Q hs s h => two_run (r := r) qa qb q hs s h⟩
def asB : D → Res Bool
  | .bool b => .ok b
  | _ => .stuck
def tB (f : DS → Res D) : DS → Res Bool := fun σ => (f σ).bind asB
theorem asB_run {v : V} {d : D} {R H : Hp} {Q : Bool → Hp → Prop} (q : Rp X.K R v d) (s : Same R H) (h : Post X.K X.mg Ex rB R H Q (asB d)) : ∃ c, v = .bl c ∧ Q c H := by
  cases q with
  | bl b => exact ⟨b, rfl, Post.now s (rel := rB) rfl h⟩
  | _ => exact h.elim
theorem dt_cmp {op : CmpOp} {o : D → D → Res D} (ho : OpD X (compareOp op) o) (ha : DE X E a f) (hb : DE X E b g) (hm : behindInMarks op b = false := by first | exact nobehind _ (by decide) (by decide) | rfl) : DT X E (.Compare a [op] [b] pos) (tB (e2 o f g)) := by
  obtain ⟨r, hr, q⟩ := ho
  obtain ⟨ta, pa, qa⟩ := ha
  obtain ⟨tb, pb, qb⟩ := hb
  refine ⟨_, pt_cmpR hr pa pb hm, fun σ τ R H Q hs s h => ?_⟩
  exact two_run (r := r) qa qb q hs s (post_bind s h fun x v R1 H1 e1 q1 h1 => asB_run q1 e1.sub h1)
theorem dt_val (ha : DE X E a f) (he : ∀ whole, isTrue a X.env whole = (do let v ← whole; standAt a.pos; holding [v] (truthy v)) := by intro _; rfl) : DT X E a (tB f) := by
  obtain ⟨ta, pa, qa⟩ := ha
  exact ⟨_, pt_val pa he, fun σ τ R H Q hs s h => qa σ τ R H _ hs s (post_bind s h fun x v R1 H1 e1 q1 h1 => asB_run q1 e1.sub h1)⟩
variable {p q r : DS → Res Bool} {rest : List Expr} {e : Expr}
def tAnd (p q : DS → Res Bool) : DS → Res Bool := fun σ => (p σ).bind fun b => if b then q σ else .ok false
def tOr (p q : DS → Res Bool) : DS → Res Bool := fun σ => (p σ).bind fun b => if b then .ok true else q σ
def tNot (p : DS → Res Bool) : DS → Res Bool := fun σ => (p σ).bind fun b => .ok (!b)
theorem DW.pt (h : DW X E e p) : DT X E e p := by
  obtain ⟨t, a, b⟩ := h
  exact ⟨t, a.pt, b⟩
theorem dw_and1 (ha : DT X E a p) : DW X E (.BoolOp .And [a] pos) p := by
  obtain ⟨t, h1, h2⟩ := ha
  exact ⟨t, pw_and1 h1, h2⟩
theorem dw_or1 (ha : DT X E a p) : DW X E (.BoolOp .Or [a] pos) p := by
  obtain ⟨t, h1, h2⟩ := ha
  exact ⟨t, pw_or1 h1, h2⟩
theorem dw_and (ha : DT X E a p) (hb : DW X E (.BoolOp .And (b :: rest) pos) q) : DW X E (.BoolOp .And (a :: b :: rest) pos) (tAnd p q) := by
  obtain ⟨t, h1, h2⟩ := ha
  obtain ⟨u, h3, h4⟩ := hb
  refine ⟨_, pw_and h1 h3, fun σ τ R H Q hs s h => h2 σ τ R H _ hs s (post_bind (rel := rB) s h fun x v R1 H1 e1 q1 k => ?_)⟩
  subst q1
  cases v with
  | true => exact h4 σ τ R1 H1 Q (hs.mono e1.rr) e1.sub k
  | false => exact Post.now e1.sub (rel := rB) rfl k
theorem dw_or (ha : DT X E a p) (hb : DW X E (.BoolOp .Or (b :: rest) pos) q) : DW X E (.BoolOp .Or (a :: b :: rest) pos) (tOr p q) := by
  obtain ⟨t, h1, h2⟩ := ha
  obtain ⟨u, h3, h4⟩ := hb
  refine ⟨_, pw_or h1 h3, fun σ τ R H Q hs s h => h2 σ τ R H _ hs s (post_bind (rel := rB) s h fun x v R1 H1 e1 q1 k => ?_)⟩
  subst q1
  cases v with
  | false => exact h4 σ τ R1 H1 Q (hs.mono e1.rr) e1.sub k
  | true => exact Post.now e1.sub (rel := rB) rfl k
theorem dt_not (ha : DT X E a p) : DT X E (.UnaryOp .Not a pos) (tNot p) := by
  obtain ⟨t, h1, h2⟩ := ha
  refine ⟨_, pt_not h1, fun σ τ R H Q hs s h => h2 σ τ R H _ hs s (post_bind (rel := rB) s h fun x v R1 H1 e1 q1 k => ?_)⟩
  subst q1
  exact Post.now e1.sub (rel := rB) rfl k
def eAnd (f g : DS → Res D) : DS → Res D := fun σ => (tB f σ).bind fun b => if b then g σ else .ok (.bool false)
def eOr (f g : DS → Res D) : DS → Res D := fun σ => (tB f σ).bind fun b => if b then .ok (.bool true) else g σ
def notD : D → Res D
  | .bool b => .ok (.bool (!b))
  | _ => .stuck
theorem de_one {op} (h : DE X E a f) : DE X E (.BoolOp op [a] pos) f := by
  obtain ⟨t, h1, h2⟩ := h
  exact ⟨t, pe_one h1, h2⟩
theorem bindB {r : Res D} {k : Bool → Res D} : (r.bind asB).bind k = r.bind fun d => (asB d).bind k := by cases r <;> rfl
theorem de_and (ha : DE X E a f) (hb : DE X E (.BoolOp .And (b :: rest) pos) g) : DE X E (.BoolOp .And (a :: b :: rest) pos) (eAnd f g) := by
  obtain ⟨t, h1, h2⟩ := ha
  obtain ⟨u, h3, h4⟩ := hb
  refine ⟨_, pe_and h1 h3, fun σ τ R H Q hs s h => h2 σ τ R H _ hs s ?_⟩
  have h' : Post X.K X.mg (xat E τ) (rV X.K) R H Q ((f σ).bind fun d => (asB d).bind fun b => if b then g σ else .ok (.bool false)) := by rw [← bindB]; exact h
  refine post_bind s h' fun x v R1 H1 e1 q1 k => ?_
  cases q1 with
  | bl c =>
    refine ⟨c, rfl, ?_⟩
    cases c with
    | true => exact h4 σ τ R1 H1 Q (hs.mono e1.rr) e1.sub k
    | false => exact Post.now e1.sub (Rp.bl false) k
  | _ => exact k.elim
theorem de_not (ha : DE X E a f) : DE X E (.UnaryOp .Not a pos) (e1 notD f) := by
  obtain ⟨t, h1, h2⟩ := ha
  refine ⟨_, pe_not h1, fun σ τ R H Q hs s h => h2 σ τ R H _ hs s (post_bind s h fun x v R1 H1 e1 q1 k => ?_)⟩
  cases q1 with
  | bl c => exact ⟨c, rfl, Post.now e1.sub (Rp.bl _) k⟩
  | _ => exact k.elim
def eIf (p : DS → Res Bool) (f g : DS → Res D) : DS → Res D := fun σ => (p σ).bind fun b => if b then f σ else g σ
def aNil : DS → Res (List D) := fun _ => .ok []
def aCons (f : DS → Res D) (g : DS → Res (List D)) : DS → Res (List D) := fun σ => (f σ).bind fun x => (g σ).bind fun xs => .ok (x :: xs)
variable {es : List Expr} {ga : DS → Res (List D)}
theorem da_nil : DA X E [] aNil := ⟨_, pa_nil, fun _ _ _ _ _ _ s h => Post.now s RpA.nil h⟩
theorem da_cons (ha : DE X E e f) (hr : DA X E es ga) (hs : starEach (e :: es) X.env = (false, eval e X.env) :: starEach es X.env := by rfl) : DA X E (e :: es) (aCons f ga) := by
  obtain ⟨t, h1, h2⟩ := ha
  obtain ⟨u, h3, h4⟩ := hr
  refine ⟨_, pa_cons h1 h3 hs, fun σ τ R H Q hs s h => h2 σ τ R H _ hs s (post_bind s h fun x v R1 H1 e1 q1 k => ?_)⟩
  refine h4 σ τ R1 H1 _ (hs.mono e1.rr) e1.sub (post_bind e1.sub k fun xs vs R2 H2 e2 q2 k2 => ?_)
  exact Post.now e2.sub (RpA.cons (q1.mono e2.rr) q2) k2
def tupD (xs : List D) : Res D := if xs.length ≤ sizeLine then .ok (.tuple xs) else .stuck
def lstD (xs : List D) : Res D := if xs.length ≤ sizeLine then .ok (.list xs) else .stuck
def eTup (g : DS → Res (List D)) : DS → Res D := fun σ => (g σ).bind tupD
def eLst (g : DS → Res (List D)) : DS → Res D := fun σ => (g σ).bind lstD
theorem new_tup {xs : List V} {ds : List D} {R H : Hp} {Q : VK} {p : Addr} (q : RpA X.K R xs ds) (s : Same R H) (hp : H p = none) (h : Post X.K X.mg Ex (rV X.K) R H Q (.ok (.tuple ds))) : Q (.ref p) (upd H p (.tup xs)) :=
  h _ _ _ (Ext.alloc s hp) (Rp.tup upd_same (q.mono (same_new (s.free hp))))
theorem new_lst {xs : List V} {ds : List D} {R H : Hp} {Q : VK} {p : Addr} (q : RpA X.K R xs ds) (s : Same R H) (hp : H p = none) (h : Post X.K X.mg Ex (rV X.K) R H Q (.ok (.list ds))) : Q (.ref p) (upd H p (.lst xs)) :=
  h _ _ _ (Ext.alloc s hp) (Rp.lst (.inl (.inl upd_same)) (q.mono (same_new (s.free hp))))
theorem de_tup {x1} (h : DA X E es ga) : DE X E (.Tuple es x1 pos) (eTup ga) := by
  obtain ⟨t, h1, h2⟩ := h
  refine ⟨_, pe_tup h1, fun σ τ R H Q hs s h => h2 σ τ R H _ hs s (post_bind s h fun xs vs R1 H1 e1 q1 k => ?_)⟩
  unfold tupD at k
  by_cases hl : xs.length ≤ sizeLine
  · rw [if_pos hl] at k
    exact ⟨by rw [q1.length]; exact hl, fun p hp => new_tup q1 e1.sub hp k⟩
  · rw [if_neg hl] at k; exact k.elim
end
end E3
namespace E3
open PySem PySem.Spec PyProof.Rows L2
inductive Slot where
  | sh (d : D)
  | ow (d : D)
abbrev SS := List (Option Slot)
def Slot.dat : Slot → D
  | .sh d => d
  | .ow d => d
def Slot.shd : Slot → Option D
  | .sh d => some d
  | .ow _ => none
def view (σ : SS) : DS := σ.map fun o => o.map Slot.dat
def mask (σ : SS) : DS := σ.map fun o => o.bind Slot.shd
def Own (K : PySem.W.Frag) (R H : Hp) (a : Addr) : D → Prop
  | .list ds => ∃ vs, H a = some (.lst vs) ∧ RpA K R vs ds
  | .dict kvs => ∃ ks, H a = some (.dT ks) ∧ RpK K R ks kvs
  | _ => False
theorem Own.mono {K : PySem.W.Frag} {R H R' H' : Hp} {a : Addr} {d : D} (h : Own K R H a d) (e1 : Same R R') (e2 : Same H H') : Own K R' H' a d := by
  cases d with
  | list ds =>
    obtain ⟨vs, q, r⟩ := h
    exact ⟨vs, e2 _ _ q, r.mono e1⟩
  | dict kvs =>
    obtain ⟨vs, q, r⟩ := h
    exact ⟨vs, e2 _ _ q, r.mono e1⟩
  | _ => exact h.elim
theorem Own.some {K : PySem.W.Frag} {R H : Hp} {a : Addr} {d : D} (h : Own K R H a d) : ∃ o, H a = some o ∧ (∀ xs, o ≠ .tup xs) ∧ (∀ b u, o ≠ .frz b u) := by
  cases d with
  | list ds =>
    obtain ⟨vs, q, r⟩ := h
    exact ⟨_, q, fun _ z => (by cases z), fun _ _ z => (by cases z)⟩
  | dict kvs =>
    obtain ⟨vs, q, r⟩ := h
    exact ⟨_, q, fun _ z => (by cases z), fun _ _ z => (by cases z)⟩
  | _ => exact h.elim
structure RO (K : PySem.W.Frag) (R0 H0 R H : Hp) (σ : SS) (τ : L2.St) : Prop where
  ext : Ext R0 H0 R H
  sh : ∀ (i : Nat) (d : D), σ[i]? = some (some (.sh d)) → ∃ v, τ[i]? = some (some v) ∧ Rp K R v d
  ow : ∀ (i : Nat) (d : D), σ[i]? = some (some (.ow d)) → ∃ a, τ[i]? = some (some (.ref a)) ∧ R a = none ∧ H0 a = none ∧ Own K R H a d
  ne : ∀ (i j : Nat) (d e : D) (a : Addr), σ[i]? = some (some (.ow d)) → σ[j]? = some (some (.ow e)) → τ[i]? = some (some (.ref a)) → τ[j]? = some (some (.ref a)) → i = j
  len : σ.length = τ.length
theorem get_map {α β : Type} {l : List (Option α)} {f : Option α → Option β} (hf : f none = none) {i : Nat} {b : β} (h : (l.map f)[i]? = some (some b)) : ∃ a, l[i]? = some (some a) ∧ f (some a) = some b := by
  rw [List.getElem?_map] at h
  cases q : l[i]? with
  | none => rw [q] at h; cases h
  | some o =>
    rw [q] at h
    cases o with
    | none => rw [Option.map_some, hf] at h; cases h
    | some a => exact ⟨a, rfl, Option.some.inj h⟩
section
variable {K : PySem.W.Frag} {R0 H0 R H R' H' : Hp} {σ : SS} {τ : L2.St}
theorem RO.mask (I : RO K R0 H0 R H σ τ) : RS K R (mask σ) τ := ⟨fun i d h => by
  obtain ⟨a, h1, h2⟩ := get_map (f := fun o : Option Slot => o.bind Slot.shd) rfl h
  cases a with
  | sh e =>
    have : e = d := Option.some.inj h2
    subst this
    exact I.sh i e h1
  | ow e => exact (by cases h2), by show (σ.map _).length = _; rw [List.length_map]; exact I.len⟩
def owned (σ : SS) (τ : L2.St) (a : Addr) : Prop := ∃ (i : Nat) (d : D), σ[i]? = some (some (.ow d)) ∧ τ[i]? = some (some (.ref a))
open Classical in
noncomputable def full (σ : SS) (τ : L2.St) (R H : Hp) : Hp := fun a => if owned σ τ a then H a else R a
open Classical in
noncomputable def hide (σ : SS) (τ : L2.St) (R : Hp) : Hp := fun a => if owned σ τ a then none else R a
theorem full_o {a : Addr} (h : owned σ τ a) : full σ τ R H a = H a := by unfold full; rw [if_pos h]
theorem full_n {a : Addr} (h : ¬ owned σ τ a) : full σ τ R H a = R a := by unfold full; rw [if_neg h]
theorem hide_o {a : Addr} (h : owned σ τ a) : hide σ τ R a = none := by unfold hide; rw [if_pos h]
theorem hide_n {a : Addr} (h : ¬ owned σ τ a) : hide σ τ R a = R a := by unfold hide; rw [if_neg h]
theorem RO.ownd (I : RO K R0 H0 R H σ τ) {a : Addr} (h : owned σ τ a) : R a = none ∧ H0 a = none ∧ ∃ d, Own K R H a d := by
  obtain ⟨i, d, h1, h2⟩ := h
  obtain ⟨b, h3, h4, h5, h6⟩ := I.ow i d h1
  rw [h2] at h3
  cases h3
  exact ⟨h4, h5, d, h6⟩
theorem RO.rfull (I : RO K R0 H0 R H σ τ) : Same R (full σ τ R H) := fun a o e => by
  have n : ¬ owned σ τ a := fun z => by rw [(I.ownd z).1] at e; cases e
  rw [full_n n]; exact e
theorem RO.fullH (I : RO K R0 H0 R H σ τ) : Same (full σ τ R H) H := fun a o e => by
  by_cases n : owned σ τ a
  · rw [full_o n] at e; exact e
  · rw [full_n n] at e; exact I.ext.sub _ _ e
theorem RO.extF (I : RO K R0 H0 R H σ τ) : Ext R0 H0 (full σ τ R H) H := ⟨I.ext.rr.trans I.rfull, I.fullH, I.ext.hh, fun a o e => by
  by_cases n : owned σ τ a
  · exact .inr (.inl (I.ownd n).2.1)
  · rw [full_n n] at e; exact I.ext.new a o e⟩
theorem RO.viewed (I : RO K R0 H0 R H σ τ) : RS K (full σ τ R H) (view σ) τ := ⟨fun i d h => by
  obtain ⟨a, h1, h2⟩ := get_map (f := fun o : Option Slot => o.map Slot.dat) rfl h
  cases a with
  | sh e =>
    have : e = d := Option.some.inj h2
    subst this
    obtain ⟨v, q1, q2⟩ := I.sh i e h1
    exact ⟨v, q1, q2.mono I.rfull⟩
  | ow e =>
    have : e = d := Option.some.inj h2
    subst this
    obtain ⟨b, q1, q2, q3, q4⟩ := I.ow i e h1
    have ob : owned σ τ b := ⟨i, e, h1, q1⟩
    refine ⟨_, q1, ?_⟩
    cases e with
    | list ds =>
      obtain ⟨vs, z, r⟩ := q4
      exact .lst (.inl (.inl (by rw [full_o ob]; exact z))) (r.mono I.rfull)
    | dict kvs =>
      obtain ⟨vs, z, r⟩ := q4
      exact .dT (.inl (by rw [full_o ob]; exact z)) (r.mono I.rfull)
    | _ => exact q4.elim, by show (σ.map _).length = _; rw [List.length_map]; exact I.len⟩
theorem RO.step (I : RO K R0 H0 R H σ τ) (e : Ext R H R' H') : RO K R0 H0 R' H' σ τ where
  ext := I.ext.trans e
  sh := fun i d h => by
    obtain ⟨v, a, b⟩ := I.sh i d h
    exact ⟨v, a, b.mono e.rr⟩
  ow := fun i d h => by
    obtain ⟨a, h1, h2, h3, h4⟩ := I.ow i d h
    refine ⟨a, h1, ?_, h3, h4.mono e.rr e.hh⟩
    cases q : R' a with
    | none => rfl
    | some o =>
      rcases e.new a o q with z | z | ⟨xs, z⟩
      · rw [h2] at z; cases z
      · obtain ⟨o', z', _⟩ := h4.some
        rw [z] at z'; cases z'
      · obtain ⟨o', z', nt, _⟩ := h4.some
        have w1 := e.hh _ _ z'
        rw [e.sub _ _ q] at w1
        cases w1
        exact absurd z (nt xs)
  ne := I.ne
  len := I.len
theorem RO.stepF (I : RO K R0 H0 R H σ τ) (e : Ext (full σ τ R H) H R' H') : RO K R0 H0 (hide σ τ R') H' σ τ ∧ Tups R' (hide σ τ R') := by
  have x : Ext R H (hide σ τ R') H' := by
    refine ⟨fun a o q => ?_, fun a o q => ?_, e.hh, fun a o q => ?_⟩
    · have n : ¬ owned σ τ a := fun z => by rw [(I.ownd z).1] at q; cases q
      rw [hide_n n]
      exact e.rr _ _ (by rw [full_n n]; exact q)
    · by_cases n : owned σ τ a
      · rw [hide_o n] at q; cases q
      · rw [hide_n n] at q; exact e.sub _ _ q
    · by_cases n : owned σ τ a
      · rw [hide_o n] at q; cases q
      · rw [hide_n n] at q
        have := e.new a o q
        rw [full_n n] at this
        exact this
  refine ⟨I.step x, fun a xs q => ?_⟩
  have key : ∀ o, R' a = some o → ((∀ ys, o ≠ .tup ys) ∧ (∀ b u, o ≠ .frz b u)) ∨ hide σ τ R' a = some o := fun o z => by
    by_cases n : owned σ τ a
    · obtain ⟨d, q4⟩ := (I.ownd n).2.2
      obtain ⟨o', z1, z2, z3⟩ := q4.some
      have z4 : R' a = some o' := e.rr _ _ (by rw [full_o n]; exact z1)
      rw [z] at z4; cases z4
      exact .inl ⟨z2, z3⟩
    · exact .inr (by rw [hide_n n]; exact z)
  rcases key _ q with z | z
  · exact absurd rfl (z.1 xs)
  · exact z
theorem RO.same (I : RO K R0 H0 R H σ τ) (e : Same H H') : RO K R0 H0 R H' σ τ := I.step ⟨Same.refl _, I.ext.sub.trans e, e, fun _ _ q => .inl q⟩
theorem RO.put (I : RO K R0 H0 R H σ τ) {i : Nat} {v : V} {d : D} (q : Rp K R v d) : RO K R0 H0 R H (σ.set i (some (.sh d))) (τ.set i (some v)) where
  ext := I.ext
  sh := fun j e h => by
    by_cases hj : i = j
    · subst hj
      by_cases hl : i < σ.length
      · rw [List.getElem?_set_self hl] at h
        cases h
        exact ⟨v, List.getElem?_set_self (by rw [← I.len]; exact hl), q⟩
      · rw [List.set_eq_of_length_le (by omega)] at h
        rw [List.getElem?_eq_none (by omega)] at h; cases h
    · rw [List.getElem?_set_ne hj] at h ⊢
      exact I.sh j e h
  ow := fun j e h => by
    by_cases hj : i = j
    · subst hj
      by_cases hl : i < σ.length
      · rw [List.getElem?_set_self hl] at h; cases h
      · rw [List.set_eq_of_length_le (by omega)] at h
        rw [List.getElem?_eq_none (by omega)] at h; cases h
    · rw [List.getElem?_set_ne hj] at h ⊢
      exact I.ow j e h
  ne := fun j k d' e a h1 h2 h3 h4 => by
    have no : ∀ m (x : D), (σ.set i (some (.sh d)))[m]? = some (some (.ow x)) → i ≠ m := fun m x h hm => by
      subst hm
      by_cases hl : i < σ.length
      · rw [List.getElem?_set_self hl] at h; cases h
      · rw [List.set_eq_of_length_le (by omega)] at h
        rw [List.getElem?_eq_none (by omega)] at h; cases h
    have n1 := no _ _ h1
    have n2 := no _ _ h2
    rw [List.getElem?_set_ne n1] at h1 h3
    rw [List.getElem?_set_ne n2] at h2 h4
    exact I.ne j k d' e a h1 h2 h3 h4
  len := by rw [List.length_set, List.length_set]; exact I.len
theorem RO.putO (I : RO K R0 H0 R H σ τ) {i : Nat} {a : Addr} {d : D} (hR : R a = none) (h0 : H0 a = none) (ho : Own K R H a d) (hn : ¬ owned σ τ a) : RO K R0 H0 R H (σ.set i (some (.ow d))) (τ.set i (some (.ref a))) where
  ext := I.ext
  sh := fun j e h => by
    by_cases hj : i = j
    · subst hj
      by_cases hl : i < σ.length
      · rw [List.getElem?_set_self hl] at h; cases h
      · rw [List.set_eq_of_length_le (by omega)] at h
        rw [List.getElem?_eq_none (by omega)] at h; cases h
    · rw [List.getElem?_set_ne hj] at h ⊢
      exact I.sh j e h
  ow := fun j e h => by
    by_cases hj : i = j
    · subst hj
      by_cases hl : i < σ.length
      · rw [List.getElem?_set_self hl] at h
        cases h
        exact ⟨a, List.getElem?_set_self (by rw [← I.len]; exact hl), hR, h0, ho⟩
      · rw [List.set_eq_of_length_le (by omega)] at h
        rw [List.getElem?_eq_none (by omega)] at h; cases h
    · rw [List.getElem?_set_ne hj] at h ⊢
      exact I.ow j e h
  ne := fun j k d' e b h1 h2 h3 h4 => by
    have key : ∀ m n (x y : D), i = m → i ≠ n → (σ.set i (some (.ow d)))[n]? = some (some (.ow y)) → (τ.set i (some (.ref a)))[m]? = some (some (.ref b)) → (τ.set i (some (.ref a)))[n]? = some (some (.ref b)) → False := fun m n x y hm hn' q1 q2 q3 => by
      subst hm
      rw [List.getElem?_set_ne hn'] at q1 q3
      have hl : i < τ.length := by
        cases Nat.lt_or_ge i τ.length with
        | inl z => exact z
        | inr z =>
          rw [List.getElem?_eq_none (by rw [List.length_set]; exact z)] at q2; cases q2
      rw [List.getElem?_set_self hl] at q2
      cases q2
      exact hn ⟨n, y, q1, q3⟩
    by_cases hj : i = j
    · by_cases hk : i = k
      · exact hj.symm.trans hk
      · exact (key j k d' e hj hk h2 h3 h4).elim
    · by_cases hk : i = k
      · exact (key k j e d' hk hj h1 h4 h3).elim
      · rw [List.getElem?_set_ne hj] at h1 h3
        rw [List.getElem?_set_ne hk] at h2 h4
        exact I.ne j k d' e b h1 h2 h3 h4
  len := by rw [List.length_set, List.length_set]; exact I.len
theorem RO.mut (I : RO K R0 H0 R H σ τ) {i : Nat} {a : Addr} {c d : D} {o : HO} (h1 : σ[i]? = some (some (.ow c))) (h2 : τ[i]? = some (some (.ref a))) (ho : Own K R (upd H a o) a d) : RO K R0 H0 R (upd H a o) (σ.set i (some (.ow d))) τ := by
  obtain ⟨a', q1, q2, q3, q4⟩ := I.ow i c h1
  rw [h2] at q1; cases q1
  have other : ∀ b, b ≠ a → upd H a o b = H b := fun b hb => upd_ne hb
  refine ⟨⟨I.ext.rr, fun b x e => ?_, fun b x e => ?_, I.ext.new⟩, fun j e h => ?_, fun j e h => ?_, fun j k d' e b z1 z2 z3 z4 => ?_, by rw [List.length_set]; exact I.len⟩
  · rw [other b (fun z => by rw [z, q2] at e; cases e)]; exact I.ext.sub _ _ e
  · rw [other b (fun z => by rw [z, q3] at e; cases e)]; exact I.ext.hh _ _ e
  · by_cases hj : i = j
    · subst hj
      have hl : i < σ.length := (List.getElem?_eq_some_iff.mp h1).1
      rw [List.getElem?_set_self hl] at h; cases h
    · rw [List.getElem?_set_ne hj] at h
      exact I.sh j e h
  · by_cases hj : i = j
    · subst hj
      have hl : i < σ.length := (List.getElem?_eq_some_iff.mp h1).1
      rw [List.getElem?_set_self hl] at h; cases h
      exact ⟨a, h2, q2, q3, ho⟩
    · rw [List.getElem?_set_ne hj] at h
      obtain ⟨b, r1, r2, r3, r4⟩ := I.ow j e h
      refine ⟨b, r1, r2, r3, ?_⟩
      have nb : b ≠ a := fun z => by
        subst z
        exact hj (I.ne i j c e b h1 h h2 r1)
      cases e with
      | list ds =>
        obtain ⟨vs, y1, y2⟩ := r4
        exact ⟨vs, by rw [other b nb]; exact y1, y2⟩
      | dict kvs =>
        obtain ⟨vs, y1, y2⟩ := r4
        exact ⟨vs, by rw [other b nb]; exact y1, y2⟩
      | _ => exact r4.elim
  · have back : ∀ m (x : D), (σ.set i (some (Slot.ow d)))[m]? = some (some (Slot.ow x)) → ∃ y, σ[m]? = some (some (Slot.ow y)) := fun m x h => by
      by_cases hm : i = m
      · subst hm; exact ⟨c, h1⟩
      · rw [List.getElem?_set_ne hm] at h; exact ⟨x, h⟩
    obtain ⟨y1, w1⟩ := back _ _ z1
    obtain ⟨y2, w2⟩ := back _ _ z2
    exact I.ne j k y1 y2 b w1 w2 z3 z4
theorem RO.freeze (I : RO K R0 H0 R H σ τ) {i : Nat} {c : D} (h1 : σ[i]? = some (some (.ow c))) : ∃ R', RO K R0 H0 R' H (σ.set i (some (.sh c))) τ := by
  obtain ⟨a, q1, q2, q3, q4⟩ := I.ow i c h1
  obtain ⟨o, z1, z2, z3⟩ := q4.some
  have rr : Same R (upd R a o) := same_new q2
  have hl : i < σ.length := (List.getElem?_eq_some_iff.mp h1).1
  refine ⟨upd R a o, ⟨I.ext.rr.trans rr, fun b x e => ?_, I.ext.hh, fun b x e => ?_⟩, fun j e h => ?_, fun j e h => ?_, fun j k d' e b w1 w2 w3 w4 => ?_, by rw [List.length_set]; exact I.len⟩
  · by_cases hb : b = a
    · subst hb; rw [upd_same] at e; rw [z1]; exact e
    · rw [upd_ne hb] at e; exact I.ext.sub _ _ e
  · by_cases hb : b = a
    · subst hb; exact .inr (.inl q3)
    · rw [upd_ne hb] at e; exact I.ext.new _ _ e
  · by_cases hj : i = j
    · subst hj
      rw [List.getElem?_set_self hl] at h
      cases h
      refine ⟨_, q1, ?_⟩
      cases c with
      | list ds =>
        obtain ⟨vs, z, r⟩ := q4
        rw [z1] at z
        cases z
        exact .lst (.inl (.inl upd_same)) (r.mono rr)
      | dict kvs =>
        obtain ⟨vs, z, r⟩ := q4
        rw [z1] at z
        cases z
        exact .dT (.inl upd_same) (r.mono rr)
      | _ => exact q4.elim
    · rw [List.getElem?_set_ne hj] at h
      obtain ⟨v, y1, y2⟩ := I.sh j e h
      exact ⟨v, y1, y2.mono rr⟩
  · by_cases hj : i = j
    · subst hj
      rw [List.getElem?_set_self hl] at h; cases h
    · rw [List.getElem?_set_ne hj] at h
      obtain ⟨b, r1, r2, r3, r4⟩ := I.ow j e h
      have nb : b ≠ a := fun z => by
        subst z
        exact hj (I.ne i j c e b h1 h q1 r1)
      exact ⟨b, r1, by rw [upd_ne nb]; exact r2, r3, r4.mono rr (Same.refl _)⟩
  · have back : ∀ m (x : D), (σ.set i (some (Slot.sh c)))[m]? = some (some (Slot.ow x)) → σ[m]? = some (some (Slot.ow x)) := fun m x h => by
      by_cases hm : i = m
      · subst hm
        rw [List.getElem?_set_self hl] at h; cases h
      · rw [List.getElem?_set_ne hm] at h; exact h
    exact I.ne j k d' e b (back _ _ w1) (back _ _ w2) w3 w4
end
inductive Out where
  | nx | bk | ct
  | rt (d : D)
inductive SR where
  | ok (o : Out) (σ : SS)
  | exc (e : Exn) (σ : SS)
  | stuck
abbrev SF := SS → SR
def thenR {α : Type} (r : Res α) (σ : SS) (k : α → SR) : SR := match r with
  | .ok a => k a
  | .exc e => .exc e σ
  | .stuck => .stuck
@[simp] theorem thenR_ok {α : Type} (a : α) (σ : SS) (k : α → SR) : thenR (.ok a) σ k = k a := rfl
@[simp] theorem thenR_exc {α : Type} (e : Exn) (σ : SS) (k : α → SR) : thenR (.exc e : Res α) σ k = .exc e σ := rfl
@[simp] theorem thenR_stuck {α : Type} (σ : SS) (k : α → SR) : thenR (.stuck : Res α) σ k = .stuck := rfl
def SPost (X : Cx) (E : WX) (R0 H0 : Hp) (Dn : Ends) : SR → Prop
  | .ok .nx σ => ∀ R H τ, RO X.K R0 H0 R H σ τ → Dn.nx τ H
  | .ok .bk σ => ∀ R H τ, RO X.K R0 H0 R H σ τ → Dn.bk τ H
  | .ok .ct σ => ∀ R H τ, RO X.K R0 H0 R H σ τ → Dn.ct τ H
  | .ok (.rt d) _ => ∀ v R H, Ext R0 H0 R H → Rp X.K R v d → Dn.rt v H
  | .exc x σ => ∀ c dx R H τ, RO X.K R0 H0 R H σ τ → ExL X.K X.mg H0 x c dx H → E c dx τ H
  | .stuck => False
structure DS1 (X : Cx) (E : WX) (st : Stmt) (g : SF) : Prop where
  run : ∃ t : TS, PS X st t ∧ ∀ (R0 H0 : Hp) (σ : SS) (τ : L2.St) (R H : Hp) (Dn : Ends), RO X.K R0 H0 R H σ τ → SPost X E R0 H0 Dn (g σ) → t Dn τ H
structure DSs (X : Cx) (E : WX) (st : List Stmt) (g : SF) : Prop where
  run : ∃ t : TS, PSs X st t ∧ ∀ (R0 H0 : Hp) (σ : SS) (τ : L2.St) (R H : Hp) (Dn : Ends), RO X.K R0 H0 R H σ τ → SPost X E R0 H0 Dn (g σ) → t Dn τ H
section
variable {X : Cx} {E : WX} {st : Stmt} {sts : List Stmt} {e : Expr} {f : DS → Res D} {g h : SF} {pos : Pos} {R0 H0 R H : Hp} {σ : SS} {τ : L2.St} {Dn : Ends}
theorem post_mask {α β : Type} {rel : Hp → β → α → Prop} {r : Res α} {k : α → SR} {T : β → Hp → Prop} (I : RO X.K R0 H0 R H σ τ) (q : SPost X E R0 H0 Dn (thenR r σ k))
    (z : ∀ d v R' H', RO X.K R0 H0 R' H' σ τ → rel R' v d → SPost X E R0 H0 Dn (k d) → T v H') : Post X.K X.mg (xat E τ) rel R H T r := by
  cases r with
  | ok d => exact fun v R' H' x y => z d v R' H' (I.step x) y q
  | exc x => exact fun c dx H' s y => q c dx R H' τ (I.same s) (y.back I.ext.hh)
  | stuck => exact q
theorem post_view {r : Res D} {k : D → SR} {T : V → Hp → Prop} (I : RO X.K R0 H0 R H σ τ) (q : SPost X E R0 H0 Dn (thenR r σ fun d => if flat d then k d else .stuck))
    (z : ∀ d v R' H', RO X.K R0 H0 R' H' σ τ → Rp X.K R' v d → SPost X E R0 H0 Dn (k d) → T v H') : Post X.K X.mg (xat E τ) (rV X.K) (full σ τ R H) H T r := by
  cases r with
  | ok d =>
    refine fun v R' H' x y => ?_
    have q' : SPost X E R0 H0 Dn (if flat d then k d else .stuck) := q
    by_cases hf : flat d = true
    · rw [if_pos hf] at q'
      obtain ⟨J, tu⟩ := I.stepF x
      exact z d v _ H' J (Rp.flat tu y hf) q'
    · rw [if_neg hf] at q'; exact q'.elim
  | exc x => exact fun c dx H' s y => q c dx R H' τ (I.same s) (y.back I.ext.hh)
  | stuck => exact q
theorem post_test {r : Res Bool} {k : Bool → SR} {T : Bool → Hp → Prop} (I : RO X.K R0 H0 R H σ τ) (q : SPost X E R0 H0 Dn (thenR r σ k))
    (z : ∀ b R' H', RO X.K R0 H0 R' H' σ τ → SPost X E R0 H0 Dn (k b) → T b H') : Post X.K X.mg (xat E τ) rB (full σ τ R H) H T r := by
  cases r with
  | ok d =>
    refine fun v R' H' x y => ?_
    subst y
    exact z v _ H' (I.stepF x).1 q
  | exc x => exact fun c dx H' s y => q c dx R H' τ (I.same s) (y.back I.ext.hh)
  | stuck => exact q
def sNil : SF := fun σ => .ok .nx σ
def sSeq (g h : SF) : SF := fun σ => match g σ with
  | .ok .nx σ' => h σ'
  | r => r
theorem dss_nil : DSs X E [] sNil := ⟨_, pss_nil, fun _ _ _ _ _ _ _ I q => q _ _ _ I⟩
theorem dss_one (a : DS1 X E st g) : DSs X E [st] g := by
  obtain ⟨t, h1, h2⟩ := a
  exact ⟨t, pss_one h1, h2⟩
theorem dss_cons (a : DS1 X E st g) (b : DSs X E sts h) : DSs X E (st :: sts) (sSeq g h) := by
  obtain ⟨t, h1, h2⟩ := a
  obtain ⟨u, h3, h4⟩ := b
  refine ⟨_, pss_cons h1 h3, fun R0 H0 σ τ R H Dn I q => h2 R0 H0 σ τ R H _ I ?_⟩
  unfold sSeq at q
  cases z : g σ with
  | ok o σ' =>
    rw [z] at q
    cases o with
    | nx => exact fun R' H' τ' J => h4 R0 H0 σ' τ' R' H' Dn J q
    | bk => exact q
    | ct => exact q
    | rt d => exact q
  | exc x σ' => rw [z] at q; exact q
  | stuck => rw [z] at q; exact q
def sFreeze (i : Nat) (h : SF) : SF := fun σ => match σ[i]? with
  | some (some (.ow c)) => h (σ.set i (some (.sh c)))
  | _ => h σ
theorem dss_freeze (i : Nat) (b : DSs X E sts h) : DSs X E sts (sFreeze i h) := by
  obtain ⟨u, h3, h4⟩ := b
  refine ⟨u, h3, fun R0 H0 σ τ R H Dn I q => ?_⟩
  unfold sFreeze at q
  cases z : σ[i]? with
  | none => rw [z] at q; exact h4 R0 H0 σ τ R H Dn I q
  | some o =>
    cases o with
    | none => rw [z] at q; exact h4 R0 H0 σ τ R H Dn I q
    | some s =>
      cases s with
      | sh d => rw [z] at q; exact h4 R0 H0 σ τ R H Dn I q
      | ow c =>
        rw [z] at q
        obtain ⟨R', J⟩ := I.freeze z
        exact h4 R0 H0 _ τ R' H Dn J q
def sRet (f : DS → Res D) : SF := fun σ => thenR (f (view σ)) σ fun d => .ok (.rt d) σ
theorem ds_ret (he : DE X E e f) : DS1 X E (.Return (some e) pos) (sRet f) := by
  obtain ⟨t, h1, h2⟩ := he
  refine ⟨_, ps_ret h1, fun R0 H0 σ τ R H Dn I q => h2 (view σ) τ (full σ τ R H) H _ I.viewed I.fullH ?_⟩
  unfold sRet at q
  cases z : f (view σ) with
  | ok d =>
    rw [z] at q
    exact fun v R' H' x y => q v R' H' (I.extF.trans x) y
  | exc x => rw [z] at q; exact fun c dx H' s y => q c dx R H' τ (I.same s) (y.back I.ext.hh)
  | stuck => rw [z] at q; exact q
def sExpr (f : DS → Res D) : SF := fun σ => thenR (f (mask σ)) σ fun _ => .ok .nx σ
theorem ds_expr (he : DE X E e f) (hs : swapsWith e none pos.line X.env = pure false := by rfl) : DS1 X E (.Expr e pos) (sExpr f) := by
  obtain ⟨t, h1, h2⟩ := he
  exact ⟨_, ps_expr h1 hs, fun R0 H0 σ τ R H Dn I q => h2 (mask σ) τ R H _ I.mask I.ext.sub (post_mask I q fun d v R' H' J y z => z R' H' τ J)⟩
def sIf (p : DS → Res Bool) (g h : SF) : SF := fun σ => thenR (p (view σ)) σ fun b => if b then g σ else h σ
theorem ds_if {c : Expr} {a b : List Stmt} {p : DS → Res Bool} (hc : DT X E c p) (ha : DSs X E a g) (hb : DSs X E b h) : DS1 X E (.If c a b pos) (sIf p g h) := by
  obtain ⟨t, h1, h2⟩ := hc
  obtain ⟨ta, a1, a2⟩ := ha
  obtain ⟨tb, b1, b2⟩ := hb
  refine ⟨_, ps_if h1 a1 b1, fun R0 H0 σ τ R H Dn I q => h2 (view σ) τ (full σ τ R H) H _ I.viewed I.fullH (post_test I q fun d R' H' J y => ?_)⟩
  cases d with
  | true => exact a2 R0 H0 σ τ R' H' Dn J y
  | false => exact b2 R0 H0 σ τ R' H' Dn J y
theorem wipe_get (τ : L2.St) : ∀ (vs : List Nat) (j : Nat), (wipe τ vs)[j]? = if j ∈ vs ∧ j < τ.length then some none else τ[j]?
  | [], j => by simp [wipe]
  | v :: vs, j => by
    show ((wipe τ vs).set v none)[j]? = _
    by_cases hv : v = j
    · subst hv
      by_cases hl : v < τ.length
      · rw [List.getElem?_set_self (by rw [wipe_length]; exact hl), if_pos ⟨by simp, hl⟩]
      · rw [List.getElem?_eq_none (by rw [List.length_set, wipe_length]; omega), if_neg (fun z => hl z.2), List.getElem?_eq_none (by omega)]
    · rw [List.getElem?_set_ne hv, wipe_get τ vs j]
      by_cases hj : j ∈ vs ∧ j < τ.length
      · rw [if_pos hj, if_pos ⟨List.mem_cons_of_mem _ hj.1, hj.2⟩]
      · rw [if_neg hj, if_neg (fun z => hj ⟨(List.mem_cons.mp z.1).elim (fun e => absurd e.symm hv) id, z.2⟩)]
def Wp (ix : List Nat) (τ τ' : L2.St) : Prop := ∀ vs : List Nat, (∀ i ∈ ix, i ∈ vs) → wipe τ' vs = wipe τ vs
theorem Wp.refl (ix : List Nat) (τ : L2.St) : Wp ix τ τ := fun _ _ => rfl
theorem Wp.trans {ix jx : List Nat} {τ τ1 τ2 : L2.St} (a : Wp ix τ τ1) (b : Wp jx τ1 τ2) : Wp (ix ++ jx) τ τ2 := fun vs h => (b vs fun i hi => h i (List.mem_append_right _ hi)).trans (a vs fun i hi => h i (List.mem_append_left _ hi))
theorem Wp.set (i : Nat) (τ : L2.St) (x : Option V) : Wp [i] τ (τ.set i x) := fun vs h => by
  have hi : i ∈ vs := h i (by simp)
  apply List.ext_getElem?
  intro j
  rw [wipe_get, wipe_get, List.length_set]
  by_cases hj : j ∈ vs ∧ j < τ.length
  · rw [if_pos hj, if_pos hj]
  · rw [if_neg hj, if_neg hj]
    by_cases e : i = j
    · subst e
      have hl : ¬ i < τ.length := fun z => hj ⟨hi, z⟩
      rw [List.getElem?_eq_none (by rw [List.length_set]; omega), List.getElem?_eq_none (by omega)]
    · rw [List.getElem?_set_ne e]
abbrev GF := D → SS → Option SS
structure DG (X : Cx) (tg : Expr) (ix : List Nat) (p : GF) : Prop where
  run : ∃ t : TG, PG X tg t ∧ ∀ (R0 H0 : Hp) (d : D) (v : V) (σ σ' : SS) (τ : L2.St) (R H : Hp) (Q : L2.St → Hp → Prop), RO X.K R0 H0 R H σ τ → Rp X.K R v d → p d σ = some σ' → (∀ R' H' τ', Same R R' → Wp ix τ τ' → RO X.K R0 H0 R' H' σ' τ' → Q τ' H') → t v τ H Q
structure DGs (X : Cx) (tgs : List Expr) (ix : List Nat) (p : List D → SS → Option SS) : Prop where
  run : ∃ t : TGs, PGs X tgs t ∧ ∀ (R0 H0 : Hp) (d : List D) (v : List V) (σ σ' : SS) (τ : L2.St) (R H : Hp) (Q : L2.St → Hp → Prop), RO X.K R0 H0 R H σ τ → RpA X.K R v d → p d σ = some σ' → (∀ R' H' τ', Same R R' → Wp ix τ τ' → RO X.K R0 H0 R' H' σ' τ' → Q τ' H') → t v τ H Q
def gN (i : Nat) : GF := fun d σ => some (σ.set i (some (.sh d)))
theorem dg_name {i : Nat} {x : Str} (hN : X.N.Nodup) (hi : X.N[i]? = some x) (hx : Loc X.env.scope x) (hf : X.fn x = true ∨ X.env.scope.names.lookup x = some .local := by first | exact .inl rfl | exact .inr rfl | assumption) : DG X (.Name x pos) [i] (gN i) :=
  ⟨_, pg_name hN hi hx hf, fun R0 H0 d v σ σ' τ R H Q I r e q => by cases e; exact q R H _ (Same.refl _) (Wp.set i _ _) (I.put r)⟩
def gsNil : List D → SS → Option SS := fun ds σ => match ds with
  | [] => some σ
  | _ => none
def gsCons (p : GF) (ps : List D → SS → Option SS) : List D → SS → Option SS := fun ds σ => match ds with
  | d :: ds => (p d σ).bind (ps ds)
  | [] => none
theorem dgs_nil : DGs X [] [] gsNil := ⟨_, pgs_nil, fun R0 H0 d v σ σ' τ R H Q I r e q => by
  cases r with
  | nil => cases e; exact ⟨rfl, q _ _ _ (Same.refl _) (Wp.refl _ _) I⟩
  | cons _ _ => cases e⟩
theorem dgs_cons {tg : Expr} {tgs : List Expr} {p : GF} {ps : List D → SS → Option SS} {ix jx : List Nat} (a : DG X tg ix p) (b : DGs X tgs jx ps) (hs : (assignEach (tg :: tgs) X.env).map (·.2) = assign tg X.env :: (assignEach tgs X.env).map (·.2) := by rfl) : DGs X (tg :: tgs) (ix ++ jx) (gsCons p ps) := by
  obtain ⟨t, h1, h2⟩ := a
  obtain ⟨u, h3, h4⟩ := b
  refine ⟨_, pgs_cons h1 h3 hs, fun R0 H0 d v σ σ' τ R H Q I r e q => ?_⟩
  cases r with
  | nil => cases e
  | cons r1 r2 =>
    rename_i v vs d ds
    have e' : (p d σ).bind (ps ds) = some σ' := e
    cases z : p d σ with
    | none => rw [z] at e'; cases e'
    | some σ1 =>
      rw [z] at e'
      refine ⟨v, vs, rfl, ?_⟩
      exact h2 R0 H0 d v σ σ1 τ R H _ I r1 z fun R1 H1 τ1 s w J => h4 R0 H0 ds vs σ1 σ' τ1 R1 H1 Q J (r2.mono s) e' fun R2 H2 τ2 s2 w2 J2 => q R2 H2 τ2 (s.trans s2) (w.trans w2) J2
def gT (n : Nat) (ps : List D → SS → Option SS) : GF := fun d σ => match d with
  | .tuple ds => if ds.length = n then ps ds σ else none
  | _ => none
theorem dg_tup {tgs : List Expr} {k n : Nat} {ps : List D → SS → Option SS} {ix : List Nat} (hc : X.calm = true) (b : DGs X tgs ix ps) (hn : (assignEach tgs X.env).length = n := by rfl) (hst : (assignEach tgs X.env).findIdx? (·.1) = none := by rfl) : DG X (.Tuple tgs k pos) ix (gT n ps) := by
  obtain ⟨u, h3, h4⟩ := b
  refine ⟨_, pg_tup hc h3 hn hst, fun R0 H0 d v σ σ' τ R H Q I r e q => ?_⟩
  cases r with
  | tup hq ha =>
    rename_i a xs ds
    have e' : (if ds.length = n then ps ds σ else none) = some σ' := e
    by_cases hl : ds.length = n
    · rw [if_pos hl] at e'
      exact ⟨a, xs, rfl, SqT.of (I.ext.sub _ _ hq), by rw [ha.length]; exact hl, h4 R0 H0 ds xs σ σ' τ R H Q I ha e' q⟩
    · rw [if_neg hl] at e'; cases e'
  | _ => cases e
def optK (o : Option SS) : SR := match o with
  | some σ => .ok .nx σ
  | none => .stuck
def sAsg (p : GF) (f : DS → Res D) : SF := fun σ => thenR (f (mask σ)) σ fun d => optK (p d σ)
def sAsgV (p : GF) (f : DS → Res D) : SF := fun σ => thenR (f (view σ)) σ fun d => if flat d then optK (p d σ) else .stuck
theorem optK_run {p : Option SS} {R' H' : Hp} (I : RO X.K R0 H0 R H σ τ) (q : SPost X E R0 H0 Dn (optK p)) : ∃ σ', p = some σ' ∧ ∀ R H τ, RO X.K R0 H0 R H σ' τ → Dn.nx τ H := by
  cases p with
  | none => exact q.elim
  | some σ' => exact ⟨σ', rfl, q⟩
theorem ds_asg {tg : Expr} {p : GF} {ix : List Nat} (he : DE X E e f) (hg : DG X tg ix p) (hs : swapsWithSole [tg] e pos.line X.env = pure false := by rfl) (hw : swappedStores [tg] e X.env = pure none := by rfl)
    (h1 : (assignEach [tg] X.env).map (·.2) = [assign tg X.env] := by rfl) : DS1 X E (.Assign [tg] e pos) (sAsg p f) := by
  obtain ⟨t, e1, e2⟩ := he
  obtain ⟨u, g1, g2⟩ := hg
  refine ⟨_, ps_asg e1 g1 hs hw h1, fun R0 H0 σ τ R H Dn I q => e2 (mask σ) τ R H _ I.mask I.ext.sub (post_mask I q fun d v R' H' J y z => ?_)⟩
  obtain ⟨σ', z1, z2⟩ := optK_run (R' := R') (H' := H') J z
  exact g2 R0 H0 d v σ σ' τ R' H' _ J y z1 fun R2 H2 τ2 _ _ J2 => z2 R2 H2 τ2 J2
def sSet (i : Nat) (f : DS → Res D) : SF := fun σ => thenR (f (mask σ)) σ fun d => .ok .nx (σ.set i (some (.sh d)))
def sSetV (i : Nat) (f : DS → Res D) : SF := fun σ => thenR (f (view σ)) σ fun d => if flat d then .ok .nx (σ.set i (some (.sh d))) else .stuck
variable {x : Str} {pos' : Pos} {i : Nat}
theorem ds_set (i : Nat) (hN : X.N.Nodup) (hi : X.N[i]? = some x) (hx : Loc X.env.scope x) (he : DE X E e f) (hs : swapsWith e (some (.Name x pos')) pos.line X.env = pure false := by rfl) (hf : X.fn x = true ∨ X.env.scope.names.lookup x = some .local := by first | exact .inl rfl | exact .inr rfl | assumption) :
    DS1 X E (.Assign [.Name x pos'] e pos) (sSet i f) := by
  obtain ⟨t, e1, e2⟩ := he
  exact ⟨_, ps_set hN hi hx e1 hs hf, fun R0 H0 σ τ R H Dn I q => e2 (mask σ) τ R H _ I.mask I.ext.sub (post_mask I q fun d v R' H' J y z => z _ _ _ (J.put y))⟩
def two (i j : Nat) (σ : SS) : List D → SR
  | [x, y] => .ok .nx ((σ.set i (some (.sh x))).set j (some (.sh y)))
  | _ => .stuck
end
end E3
namespace E3
open PySem PySem.Spec PyProof.Rows L2
section
variable {X : Cx} {E : WX}
theorem OpR.or {f : Value → Value → Sem Value} {r s : R2} (h : OpR X f r) (k : OpR X f s) : OpR X f (fun x y H Q => r x y H Q ∨ s x y H Q) := fun pins s σ H x y v u Q I rx ry q => by
  rcases q with q | q
  · exact h pins s σ H x y v u Q I rx ry q
  · exact k pins s σ H x y v u Q I rx ry q
theorem CallR.or {f : Value} {r s : List V → Hp → VK → Prop} (h : CallR X f r) (k : CallR X f s) : CallR X f (fun x H Q => r x H Q ∨ s x H Q) := fun pins s σ H xs us Q I rx q => by
  rcases q with q | q
  · exact h pins s σ H xs us Q I rx q
  · exact k pins s σ H xs us Q I rx q
def rCatG (K : PySem.W.Frag) : R2 := fun x y H Q => ∃ l b xs zs, x = .ref l ∧ y = .ref b ∧ LsQ K H l xs ∧ LsQ K H b zs ∧ xs.length + zs.length ≤ sizeLine ∧ ∀ p, H p = none → Q (.ref p) (upd H p (.lst (xs ++ zs)))
theorem op_catG : OpR X (binaryOp .Add) (rCatG X.K) := fun pins s σ H x y v u Q I rx ry h => by
  obtain ⟨l, b, xs, zs, rfl, rfl, ha, hb, hz, q⟩ := h
  cases rx
  cases ry
  obtain ⟨z1, i1, n1, r1, e1⟩ := ha.at I
  obtain ⟨z2, i2, n2, r2, e2⟩ := hb.at I
  have l1 := r1.length
  have l2 := r2.length
  refine PySem.P.add_list e1 e2 ?_ (by rw [List.size_toArray, List.size_toArray]; omega)
  rw [show i1.toArray ++ i2.toArray = (i1 ++ i2).toArray by simp]
  exact ⟨.ref _, _, I.lnew (t' := s.toks) (r1.append r2) (by rw [List.length_append]; omega), rfl, q _ I.fresh⟩
def addD : D → D → Res D
  | .int i, .int j => .ok (.int (i + j))
  | .str i, .str j => if i.length + j.length ≤ sizeLine then .ok (.str (i ++ j)) else .stuck
  | .tuple xs, .tuple ys => if xs.length + ys.length ≤ sizeLine then .ok (.tuple (xs ++ ys)) else .stuck
  | .list xs, .list ys => if xs.length + ys.length ≤ sizeLine then .ok (.list (xs ++ ys)) else .stuck
  | _, _ => .stuck
theorem RpA.nil_iff {K : PySem.W.Frag} {R : Hp} {vs : List V} {ds : List D} (h : RpA K R vs ds) : vs = [] ↔ ds = [] := by
  cases h with
  | nil => exact ⟨fun _ => rfl, fun _ => rfl⟩
  | cons a b => exact ⟨fun z => (by cases z), fun z => (by cases z)⟩
theorem od_add : OpD X (binaryOp .Add) addD := by
  refine ⟨_, (op_add.or op_add_str).or (op_catA.or op_catG), fun v w x y R H Q Ex rx ry s h => ?_⟩
  cases rx with
  | int i => cases ry with
    | int j => exact .inl (.inl ⟨i, j, rfl, rfl, Post.now s (Rp.int _) h⟩)
    | _ => exact h.elim
  | str i => cases ry with
    | str j =>
      simp only [addD] at h
      by_cases hl : i.length + j.length ≤ sizeLine
      · rw [if_pos hl] at h; exact .inl (.inr ⟨i, j, rfl, rfl, hl, Post.now s (Rp.str _) h⟩)
      · rw [if_neg hl] at h; exact h.elim
    | _ => exact h.elim
  | tup h1 q1 => cases ry with
    | tup h2 q2 =>
      rename_i a xs ds b ys es
      simp only [addD] at h
      by_cases hl : ds.length + es.length ≤ sizeLine
      · rw [if_pos hl] at h
        refine .inr (.inl ⟨a, b, xs, ys, rfl, rfl, SqT.of (s _ _ h1), SqT.of (s _ _ h2), by rw [q1.length, q2.length]; exact hl, fun z => ?_, fun _ z => ?_, fun _ _ p hp => new_tup (q1.append q2) s hp h⟩)
        · have e1 := q1.nil_iff.mp z
          subst e1
          exact Post.now s (Rp.tup h2 q2) h
        · have e1 := q2.nil_iff.mp z
          subst e1
          rw [List.append_nil] at h
          exact Post.now s (Rp.tup h1 q1) h
      · rw [if_neg hl] at h; exact h.elim
    | _ => exact h.elim
  | lst h1 q1 => cases ry with
    | lst h2 q2 =>
      rename_i a xs ds b ys es
      simp only [addD] at h
      by_cases hl : ds.length + es.length ≤ sizeLine
      · rw [if_pos hl] at h
        exact .inr (.inr ⟨a, b, xs, ys, rfl, rfl, ls_same s h1, ls_same s h2, by rw [q1.length, q2.length]; exact hl, fun p hp => new_lst (q1.append q2) s hp h⟩)
      · rw [if_neg hl] at h; exact h.elim
    | _ => exact h.elim
  | _ => exact h.elim
def iop (c : Int → Int → Bool) (g : Int → Int → D) : D → D → Res D
  | .int i, .int j => if c i j then .ok (g i j) else .stuck
  | _, _ => .stuck
theorem od_iop {f : Value → Value → Sem Value} {C : Int → Int → Prop} {gv : Int → Int → V} {c : Int → Int → Bool} {g : Int → Int → D} (h : OpR X f (rI C gv)) (hc : ∀ i j, c i j = true → C i j) (hg : ∀ i j R, Rp X.K R (gv i j) (g i j)) : OpD X f (iop c g) := by
  refine ⟨_, h, fun v w x y R H Q Ex rx ry s h => ?_⟩
  cases rx with
  | int i => cases ry with
    | int j =>
      simp only [iop] at h
      by_cases hl : c i j = true
      · rw [if_pos hl] at h; exact ⟨i, j, rfl, rfl, hc i j hl, Post.now s (hg i j R) h⟩
      · rw [if_neg hl] at h; exact h.elim
    | _ => exact h.elim
  | _ => exact h.elim
theorem od_iop0 {f : Value → Value → Sem Value} {gv : Int → Int → V} {g : Int → Int → D} (h : OpR X f (rI0 gv)) (hg : ∀ i j R, Rp X.K R (gv i j) (g i j)) : OpD X f (iop (fun _ _ => true) g) := by
  refine ⟨_, h, fun v w x y R H Q Ex rx ry s h => ?_⟩
  cases rx with
  | int i => cases ry with
    | int j => exact ⟨i, j, rfl, rfl, Post.now s (hg i j R) h⟩
    | _ => exact h.elim
  | _ => exact h.elim
def subD : D → D → Res D := iop (fun _ _ => true) fun i j => .int (i - j)
def mulD : D → D → Res D := iop (fun i j => decide (i.natAbs.log2 + j.natAbs.log2 < 1000000)) fun i j => .int (i * j)
def fdivD : D → D → Res D := iop (fun _ j => decide (0 < j ∧ j.natAbs.log2 < 9000)) fun i j => .int (i / j)
def modD : D → D → Res D := iop (fun _ j => decide (0 < j)) fun i j => .int (i % j)
def powD : D → D → Res D := iop (fun i j => decide (0 ≤ j ∧ j ≤ 1000000 ∧ i.natAbs < 2 ^ 64)) fun i j => .int (i ^ j.toNat)
def shlD : D → D → Res D := iop (fun i j => decide (0 ≤ j ∧ j ≤ 1000000 ∧ i.natAbs < 2 ^ 64)) fun i j => .int (i * 2 ^ j.toNat)
def shrD : D → D → Res D := iop (fun _ j => decide (0 ≤ j)) fun i j => .int (i / 2 ^ j.toNat)
def andD : D → D → Res D := iop (fun _ _ => true) fun i j => .int (Builtin.bitAnd i j)
theorem od_sub : OpD X (binaryOp .Sub) subD := od_iop0 op_sub fun _ _ _ => Rp.int _
theorem od_mul : OpD X (binaryOp .Mult) mulD := od_iop op_mulW (fun i j h => by have := of_decide_eq_true h; exact this) fun _ _ _ => Rp.int _
theorem od_fdiv : OpD X (binaryOp .FloorDiv) fdivD := od_iop op_fdivW (fun i j h => by have := of_decide_eq_true h; exact this) fun _ _ _ => Rp.int _
theorem od_mod : OpD X (binaryOp .Mod) modD := od_iop op_mod (fun i j h => by have := of_decide_eq_true h; exact this) fun _ _ _ => Rp.int _
theorem od_pow : OpD X (binaryOp .Pow) powD := od_iop op_pow (fun i j h => by have := of_decide_eq_true h; exact this) fun _ _ _ => Rp.int _
theorem od_shl : OpD X (binaryOp .LShift) shlD := od_iop op_shl (fun i j h => by have := of_decide_eq_true h; exact this) fun _ _ _ => Rp.int _
theorem od_shr : OpD X (binaryOp .RShift) shrD := od_iop op_shr (fun i j h => by have := of_decide_eq_true h; exact this) fun _ _ _ => Rp.int _
theorem od_and : OpD X (binaryOp .BitAnd) andD := od_iop0 op_and fun _ _ _ => Rp.int _
def ltD : D → D → Res D := iop (fun _ _ => true) fun i j => .bool (decide (i < j))
def leD : D → D → Res D := iop (fun _ _ => true) fun i j => .bool (decide (i ≤ j))
def gtD : D → D → Res D := iop (fun _ _ => true) fun i j => .bool (decide (j < i))
def geD : D → D → Res D := iop (fun _ _ => true) fun i j => .bool (decide (j ≤ i))
theorem od_lt : OpD X (compareOp .Lt) ltD := od_iop0 op_lt fun _ _ _ => Rp.bl _
theorem od_gt : OpD X (compareOp .Gt) gtD := od_iop0 op_gt fun _ _ _ => Rp.bl _
theorem od_ge : OpD X (compareOp .GtE) geD := od_iop0 op_ge fun _ _ _ => Rp.bl _
def negD : D → Res D
  | .int i => .ok (.int (-i))
  | _ => .stuck
theorem ud_neg : UnD X (unaryOp .USub) negD := by
  refine ⟨_, un_neg, fun v x R H Q Ex rx s h => ?_⟩
  cases rx with
  | int i => exact ⟨i, rfl, Post.now s (Rp.int _) h⟩
  | _ => exact h.elim
def eqD : D → D → Res D := fun x y => if SeqAt.shaped x && SeqAt.shaped y then .ok (.bool (PyData.eqv x y)) else .stuck
def neD : D → D → Res D := fun x y => if SeqAt.shaped x && SeqAt.shaped y then .ok (.bool (!PyData.eqv x y)) else .stuck
theorem od_eq (hu : X.A.units + 64 < cLine) : OpD X (compareOp .Eq) eqD := by
  refine ⟨_, op_eqD hu, fun v w x y R H Q Ex rx ry s h => ?_⟩
  unfold eqD at h
  by_cases hl : (SeqAt.shaped x && SeqAt.shaped y) = true
  · rw [if_pos hl] at h
    obtain ⟨h1, h2⟩ := Bool.and_eq_true_iff.mp hl
    exact ⟨x, y, (rx.mono s).dp (SeqAt.canLay_of_shaped h1), (ry.mono s).dp (SeqAt.canLay_of_shaped h2), h1, h2, Post.now s (Rp.bl _) h⟩
  · rw [if_neg hl] at h; exact h.elim
theorem od_ne (hu : X.A.units + 64 < cLine) : OpD X (compareOp .NotEq) neD := by
  refine ⟨_, op_neD hu, fun v w x y R H Q Ex rx ry s h => ?_⟩
  unfold neD at h
  by_cases hl : (SeqAt.shaped x && SeqAt.shaped y) = true
  · rw [if_pos hl] at h
    obtain ⟨h1, h2⟩ := Bool.and_eq_true_iff.mp hl
    exact ⟨x, y, (rx.mono s).dp (SeqAt.canLay_of_shaped h1), (ry.mono s).dp (SeqAt.canLay_of_shaped h2), h1, h2, Post.now s (Rp.bl _) h⟩
  · rw [if_neg hl] at h; exact h.elim
def isND : D → D → Res D
  | x, .none => .ok (.bool (match x with | .none => true | _ => false))
  | _, _ => .stuck
def notND : D → D → Res D
  | x, .none => .ok (.bool (match x with | .none => false | _ => true))
  | _, _ => .stuck
def rInT (K : PySem.W.Frag) (neg : Bool) : R2 := fun x y H Q => ∃ d ds, Dp K H x d ∧ Dp K H y (.tuple ds) ∧ SeqAt.shaped d = true ∧ SeqAt.shaped (.tuple ds) = true ∧ Q (.bl (if neg then !ds.any fun z => PyData.eqv z d else ds.any fun z => PyData.eqv z d)) H
theorem canA {ds : List D} (h : SeqAt.shaped (.tuple ds) = true) : PyData.canLayAll0 ds = true := by
  have := SeqAt.canLay_of_shaped h
  simpa [PyData.canLay0] using this
theorem op_inT (hu : X.A.units + 65 < cLine) : OpR X (compareOp .In) (rInT X.K false) := fun pins s σ H x y v u Q I rx ry h => by
  obtain ⟨d, ds, hd, he, sd, se, q⟩ := h
  obtain ⟨as, r1⟩ := Dp.reads I d x v hd rx
  obtain ⟨bs, r2⟩ := Dp.reads I (.tuple ds) y u he ry
  refine SeqAt.in_tuple_reads r2 r1 (canA se) (SeqAt.canLay_of_shaped sd) (room_in_shaped (xs := ds) sd hu) ⟨.bl _, H, I, rfl, q⟩
theorem op_notInT (hu : X.A.units + 65 < cLine) : OpR X (compareOp .NotIn) (rInT X.K true) := fun pins s σ H x y v u Q I rx ry h => by
  obtain ⟨d, ds, hd, he, sd, se, q⟩ := h
  obtain ⟨as, r1⟩ := Dp.reads I d x v hd rx
  obtain ⟨bs, r2⟩ := Dp.reads I (.tuple ds) y u he ry
  refine SeqAt.notIn_tuple_reads r2 r1 (canA se) (SeqAt.canLay_of_shaped sd) (room_in_shaped (xs := ds) sd hu) ⟨.bl _, H, I, rfl, q⟩
def memD (d : D) (ds : List D) : Bool := ds.any fun z => PyData.eqv z d
def inD : D → D → Res D
  | x, .list ds => if SeqAt.shaped x && SeqAt.shaped (.list ds) then .ok (.bool (memD x ds)) else .stuck
  | x, .tuple ds => if SeqAt.shaped x && SeqAt.shaped (.tuple ds) then .ok (.bool (memD x ds)) else .stuck
  | _, _ => .stuck
def notInD : D → D → Res D
  | x, .list ds => if SeqAt.shaped x && SeqAt.shaped (.list ds) then .ok (.bool (!memD x ds)) else .stuck
  | x, .tuple ds => if SeqAt.shaped x && SeqAt.shaped (.tuple ds) then .ok (.bool (!memD x ds)) else .stuck
  | _, _ => .stuck
theorem od_in (hu : X.A.units + 65 < cLine) : OpD X (compareOp .In) inD := by
  refine ⟨_, (op_inD hu).or (op_inT hu), fun v w x y R H Q Ex rx ry s h => ?_⟩
  cases ry with
  | lst h1 q1 =>
    rename_i a xs ds
    have h' : Post X.K X.mg Ex (rV X.K) R H Q (if SeqAt.shaped x && SeqAt.shaped (.list ds) then .ok (.bool (memD x ds)) else .stuck) := by cases x <;> exact h
    by_cases hl : (SeqAt.shaped x && SeqAt.shaped (.list ds)) = true
    · rw [if_pos hl] at h'
      obtain ⟨z1, z2⟩ := Bool.and_eq_true_iff.mp hl
      exact .inl ⟨x, ds, (rx.mono s).dp (SeqAt.canLay_of_shaped z1), (Rp.mono s (.lst h1 q1)).dp (SeqAt.canLay_of_shaped z2), z1, z2, Post.now s (Rp.bl _) h'⟩
    · rw [if_neg hl] at h'; exact h'.elim
  | tup h1 q1 =>
    rename_i a xs ds
    have h' : Post X.K X.mg Ex (rV X.K) R H Q (if SeqAt.shaped x && SeqAt.shaped (.tuple ds) then .ok (.bool (memD x ds)) else .stuck) := by cases x <;> exact h
    by_cases hl : (SeqAt.shaped x && SeqAt.shaped (.tuple ds)) = true
    · rw [if_pos hl] at h'
      obtain ⟨z1, z2⟩ := Bool.and_eq_true_iff.mp hl
      exact .inr ⟨x, ds, (rx.mono s).dp (SeqAt.canLay_of_shaped z1), (Rp.mono s (.tup h1 q1)).dp (SeqAt.canLay_of_shaped z2), z1, z2, Post.now s (Rp.bl _) h'⟩
    · rw [if_neg hl] at h'; exact h'.elim
  | _ => cases x <;> exact h.elim
theorem od_notIn (hu : X.A.units + 65 < cLine) : OpD X (compareOp .NotIn) notInD := by
  refine ⟨_, (op_notInD hu).or (op_notInT hu), fun v w x y R H Q Ex rx ry s h => ?_⟩
  cases ry with
  | lst h1 q1 =>
    rename_i a xs ds
    have h' : Post X.K X.mg Ex (rV X.K) R H Q (if SeqAt.shaped x && SeqAt.shaped (.list ds) then .ok (.bool (!memD x ds)) else .stuck) := by cases x <;> exact h
    by_cases hl : (SeqAt.shaped x && SeqAt.shaped (.list ds)) = true
    · rw [if_pos hl] at h'
      obtain ⟨z1, z2⟩ := Bool.and_eq_true_iff.mp hl
      exact .inl ⟨x, ds, (rx.mono s).dp (SeqAt.canLay_of_shaped z1), (Rp.mono s (.lst h1 q1)).dp (SeqAt.canLay_of_shaped z2), z1, z2, Post.now s (Rp.bl _) h'⟩
    · rw [if_neg hl] at h'; exact h'.elim
  | tup h1 q1 =>
    rename_i a xs ds
    have h' : Post X.K X.mg Ex (rV X.K) R H Q (if SeqAt.shaped x && SeqAt.shaped (.tuple ds) then .ok (.bool (!memD x ds)) else .stuck) := by cases x <;> exact h
    by_cases hl : (SeqAt.shaped x && SeqAt.shaped (.tuple ds)) = true
    · rw [if_pos hl] at h'
      obtain ⟨z1, z2⟩ := Bool.and_eq_true_iff.mp hl
      exact .inr ⟨x, ds, (rx.mono s).dp (SeqAt.canLay_of_shaped z1), (Rp.mono s (.tup h1 q1)).dp (SeqAt.canLay_of_shaped z2), z1, z2, Post.now s (Rp.bl _) h'⟩
    · rw [if_neg hl] at h'; exact h'.elim
  | _ => cases x <;> exact h.elim
def IxD (X : Cx) (o : D → D → Res D) : Prop :=
  ∃ r : R2, IxR X r ∧ ∀ (v w : V) (x y : D) (R H : Hp) (Q : VK) (Ex : XK), Rp X.K R v x → Rp X.K R w y → Same R H → Post X.K X.mg Ex (rV X.K) R H Q (o x y) → r v w H Q
variable {a b c e : Expr} {f g k : DS → Res D} {pos : Pos}
theorem de_ix {o : D → D → Res D} (ho : IxD X o) (ha : DE X E a f) (hb : DE X E b g) (hs : PlainIx b := by exact fun _ _ => rfl) : DE X E (.Subscript a b pos) (e2 o f g) := by
  obtain ⟨r, hr, q⟩ := ho
  obtain ⟨ta, pa, qa⟩ := ha
  obtain ⟨tb, pb, qb⟩ := hb
  exact ⟨_, pe_ix hr pa pb hs, fun σ τ R H Q hs s h => two_run (r := r) qa qb q hs s h⟩
theorem RpA.atI {K : PySem.W.Frag} {R : Hp} {vs : List V} {ds : List D} {i : Int} {d : D} (h : RpA K R vs ds) (q : L2.atI ds i = some d) : ∃ v, L2.atI vs i = some v ∧ Rp K R v d := by
  unfold L2.atI at q ⊢
  rw [h.length]
  cases z : ixN ds.length i with
  | none => rw [z] at q; cases q
  | some j =>
    rw [z] at q
    exact h.get q
def optR (o : Option D) : Res D := match o with
  | some d => .ok d
  | none => .stuck
def ixD : D → D → Res D
  | .list ds, .int i => optR (L2.atI ds i)
  | .tuple ds, .int i => optR (L2.atI ds i)
  | .dict ((.bool false, .str _) :: kvs), .int i => optR (L2.atI (kvs.map Prod.snd) i)
  | .str z, .int i => if z.length ≤ sizeLine then (match L2.atI z.cps.toList i with | some c => .ok (.str ⟨#[c]⟩) | none => .stuck) else .stuck
  | _, _ => .stuck
theorem id_ix : IxD X ixD := by
  refine ⟨_, ix_seq, fun v w x y R H Q Ex rx ry s h => ?_⟩
  cases rx with
  | lst h1 q1 => cases ry with
    | int i =>
      rename_i a xs ds
      have h' : Post X.K X.mg Ex (rV X.K) R H Q (optR (L2.atI ds i)) := h
      cases z : L2.atI ds i with
      | none => rw [z] at h'; exact h'.elim
      | some d =>
        rw [z] at h'
        obtain ⟨v, z1, z2⟩ := q1.atI z
        exact .inl ⟨a, xs, i, v, rfl, rfl, (ls_same s h1).sq, z1, Post.now s z2 h'⟩
    | _ => exact h.elim
  | tup h1 q1 => cases ry with
    | int i =>
      rename_i a xs ds
      have h' : Post X.K X.mg Ex (rV X.K) R H Q (optR (L2.atI ds i)) := h
      cases z : L2.atI ds i with
      | none => rw [z] at h'; exact h'.elim
      | some d =>
        rw [z] at h'
        obtain ⟨v, z1, z2⟩ := q1.atI z
        exact .inr (.inl ⟨a, xs, i, v, rfl, rfl, SqT.of (s _ _ h1), z1, Post.now s z2 h'⟩)
    | _ => exact h.elim
  | str z => cases ry with
    | int i =>
      simp only [ixD] at h
      by_cases hl : z.length ≤ sizeLine
      · rw [if_pos hl] at h
        cases q : L2.atI z.cps.toList i with
        | none => rw [q] at h; exact h.elim
        | some c =>
          rw [q] at h
          exact .inr (.inr ⟨z, i, c, rfl, rfl, hl, q, Post.now s (Rp.str _) h⟩)
      · rw [if_neg hl] at h; exact h.elim
    | _ => exact h.elim
  | dT g1 g2 => cases g2 <;> cases y <;> exact h.elim
  | ob g1 g2 =>
    cases g1 with
    | wt k1 k2 k3 k4 k5 => cases ry with
      | int i =>
        rename_i a _ kvs _ _ _ vs
        have h' : Post X.K X.mg Ex (rV X.K) R H Q (optR (L2.atI (kvs.map Prod.snd) i)) := h
        cases z : L2.atI (kvs.map Prod.snd) i with
        | none => rw [z] at h'; exact h'.elim
        | some d =>
          rw [z] at h'
          obtain ⟨v, z1, z2⟩ := (RpF.wt_inv g2).atI z
          exact .inr (.inl ⟨a, vs, i, v, rfl, rfl, .inr ⟨_, _, _, k1, k2, k3, k4, k5⟩, z1, Post.now s z2 h'⟩)
      | _ => exact h.elim
    | _ => cases y <;> exact h.elim
  | _ => cases y <;> exact h.elim
structure DO (X : Cx) (E : WX) (e : Option Expr) (f : DS → Res (Option Int)) : Prop where
  run : ∃ t : TO, PO X e t ∧ ∀ (σ : DS) (τ : L2.St) (R H : Hp) (Q : Option Int → Hp → Prop), RS X.K R σ τ → Same R H → Post X.K X.mg (xat E τ) (fun _ (b : Option Int) c => b = c) R H Q (f σ) → t τ H Q
def oNone : DS → Res (Option Int) := fun _ => .ok none
def oSome (f : DS → Res D) : DS → Res (Option Int) := fun σ => (f σ).bind fun d => match d with
  | .int i => .ok (some i)
  | _ => .stuck
theorem do_none : DO X E none oNone := ⟨_, po_none, fun _ _ _ _ _ _ s h => Post.now s rfl h⟩
theorem do_some (ha : DE X E a f) : DO X E (some a) (oSome f) := by
  obtain ⟨ta, pa, qa⟩ := ha
  refine ⟨_, po_some pa, fun σ τ R H Q hs s h => qa σ τ R H _ hs s (post_bind s h fun x v R1 H1 e1 q1 h1 => ?_)⟩
  cases q1 with
  | int i => exact ⟨i, rfl, Post.now e1.sub rfl h1⟩
  | _ => exact h1.elim
def cutD (xs : List D) (lo hi : Option Int) : List D := (xs.drop (HT.sIx xs.length 0 lo)).take (HT.sIx xs.length xs.length hi - HT.sIx xs.length 0 lo)
theorem RpA.cut {K : PySem.W.Frag} {R : Hp} {vs : List V} {ds : List D} (lo hi : Option Int) (h : RpA K R vs ds) : RpA K R (cutV vs lo hi) (cutD ds lo hi) := by
  unfold cutV cutD
  rw [h.length]
  exact (h.drop _).take _
theorem cutD_whole {ds : List D} {lo hi : Option Int} (h : HT.sIx ds.length 0 lo = 0 ∧ HT.sIx ds.length ds.length hi = ds.length) : cutD ds lo hi = ds := by
  unfold cutD
  rw [h.1, h.2, List.drop_zero, Nat.sub_zero, List.take_length]
def slD : D → Option Int → Option Int → Res D
  | .list ds, lo, hi => .ok (.list (cutD ds lo hi))
  | .tuple ds, lo, hi => .ok (.tuple (cutD ds lo hi))
  | _, _, _ => .stuck
theorem SlR.or {r q : V → Option Int → Option Int → Hp → VK → Prop} (h : SlR X r) (k : SlR X q) : SlR X (fun x l u H Q => r x l u H Q ∨ q x l u H Q) := fun pins s σ H x v vl vu lo hi sl Q I rx hs pl pu z => by
  rcases z with z | z
  · exact h pins s σ H x v vl vu lo hi sl Q I rx hs pl pu z
  · exact k pins s σ H x v vl vu lo hi sl Q I rx hs pl pu z
def eSl (f : DS → Res D) (lo hi : DS → Res (Option Int)) : DS → Res D := fun σ => (f σ).bind fun x => (lo σ).bind fun l => (hi σ).bind fun u => slD x l u
theorem de_slice {lo hi : Option Expr} {fl fh : DS → Res (Option Int)} {p2 : Pos} (he : DE X E e f) (hl : DO X E lo fl) (hh : DO X E hi fh) : DE X E (.Subscript e (.Slice lo hi none p2) pos) (eSl f fl fh) := by
  obtain ⟨te, e1, e2⟩ := he
  obtain ⟨tl, l1, l2⟩ := hl
  obtain ⟨th, h1, h2⟩ := hh
  refine ⟨_, pe_slice (sl_list.or sl_tupA) e1 l1 h1, fun σ τ R H Q hs s h => ?_⟩
  refine e2 σ τ R H _ hs s (post_bind s h fun x v R1 H1 x1 q1 k1 => ?_)
  refine l2 σ τ R1 H1 _ (hs.mono x1.rr) x1.sub (post_bind x1.sub k1 fun l l' R2 H2 x2 q2 k2 => ?_)
  subst q2
  refine h2 σ τ R2 H2 _ ((hs.mono x1.rr).mono x2.rr) x2.sub (post_bind x2.sub k2 fun u u' R3 H3 x3 q3 k3 => ?_)
  subst q3
  have q4 := (q1.mono x2.rr).mono x3.rr
  cases q4 with
  | lst z1 z2 => exact .inl ⟨_, _, rfl, (ls_same x3.sub z1).sq, fun p hp => new_lst (z2.cut _ _) x3.sub hp k3⟩
  | tup z1 z2 =>
    rename_i a xs ds
    refine .inr ⟨a, xs, rfl, SqT.of (x3.sub _ _ z1), fun w => ?_, fun _ p hp => new_tup (z2.cut _ _) x3.sub hp k3⟩
    have k3' : Post X.K X.mg (xat E τ) (rV X.K) R3 H3 Q (.ok (.tuple (cutD ds l' u'))) := k3
    rw [cutD_whole (by rw [← z2.length]; exact w)] at k3'
    exact Post.now x3.sub (Rp.tup z1 z2) k3'
  | _ => exact k3.elim
def CallD (X : Cx) (fn : Value) (o : List D → Res D) : Prop :=
  ∃ r : List V → Hp → VK → Prop, CallR X fn r ∧ ∀ (vs : List V) (ds : List D) (R H : Hp) (Q : VK) (Ex : XK), RpA X.K R vs ds → Same R H → Post X.K X.mg Ex (rV X.K) R H Q (o ds) → r vs H Q
def eCall (o : List D → Res D) (g : DS → Res (List D)) : DS → Res D := fun σ => (g σ).bind o
variable {es : List Expr} {ga : DS → Res (List D)} {x : Str} {id T : String} {p : Pos}
theorem de_callB {o : List D → Res D} (ho : CallD X (.builtin id) o) (hg : Gl X x) (hm : X.mg x = none) (hv : bootBuiltins x = some (.builtin id)) (ha : DA X E (e :: es) ga) (hn : x ≠ "__name__" := by decide) (hdb : (x == ("__debug__" : Str)) = false := by decide)
    (he : starEach (e :: es) X.env = (false, eval e X.env) :: starEach es X.env := by rfl) (hpl : (backTo pos (starEach es X.env)).any (·.1) = false := by rfl) :
    DE X E (.Call (.Name x p) (e :: es) [] pos) (eCall o ga) := by
  obtain ⟨r, hr, q⟩ := ho
  obtain ⟨t, a1, a2⟩ := ha
  exact ⟨_, pe_callB hr hg hm hv a1 hn hdb he hpl, fun σ τ R H Q hs s h => a2 σ τ R H _ hs s (post_bind s h fun d v R1 H1 e1 q1 h1 => q v d R1 H1 Q _ q1 e1.sub h1)⟩
theorem de_callTy {o : List D → Res D} (ho : CallD X (.type T) o) (hg : Gl X x) (hm : X.mg x = none) (hv : bootBuiltins x = some (.type T)) (ha : DA X E (e :: es) ga) (hn : x ≠ "__name__" := by decide) (hdb : (x == ("__debug__" : Str)) = false := by decide)
    (he : starEach (e :: es) X.env = (false, eval e X.env) :: starEach es X.env := by rfl) (hpl : (backTo pos (starEach es X.env)).any (·.1) = false := by rfl) :
    DE X E (.Call (.Name x p) (e :: es) [] pos) (eCall o ga) := by
  obtain ⟨r, hr, q⟩ := ho
  obtain ⟨t, a1, a2⟩ := ha
  exact ⟨_, pe_callTy hr hg hm hv a1 hn hdb he hpl, fun σ τ R H Q hs s h => a2 σ τ R H _ hs s (post_bind s h fun d v R1 H1 e1 q1 h1 => q v d R1 H1 Q _ q1 e1.sub h1)⟩
def lenD : List D → Res D
  | [.list ds] => .ok (.int ds.length)
  | [.tuple ds] => .ok (.int ds.length)
  | [.str z] => if z.length ≤ sizeLine then .ok (.int z.length) else .stuck
  | _ => .stuck
theorem one_inv {K : PySem.W.Frag} {R : Hp} {vs : List V} {d : D} (h : RpA K R vs [d]) : ∃ v, vs = [v] ∧ Rp K R v d := by
  cases h with
  | cons a b => cases b; exact ⟨_, rfl, a⟩
theorem two_inv {K : PySem.W.Frag} {R : Hp} {vs : List V} {d e : D} (h : RpA K R vs [d, e]) : ∃ v w, vs = [v, w] ∧ Rp K R v d ∧ Rp K R w e := by
  cases h with
  | cons a b =>
    obtain ⟨w, rfl, c⟩ := one_inv b
    exact ⟨_, _, rfl, a, c⟩
theorem cd_len : CallD X (.builtin "len") lenD := by
  refine ⟨_, CallR.or call_len_seq call_len_str, fun vs ds R H Q Ex r s h => ?_⟩
  match ds, r, h with
  | [.list ds], r, h =>
    obtain ⟨v, rfl, q⟩ := one_inv r
    cases q with
    | lst h1 q1 => exact .inl ⟨_, _, rfl, .inl (ls_same s h1).sq, by rw [q1.length]; exact Post.now s (Rp.int _) h⟩
  | [.tuple ds], r, h =>
    obtain ⟨v, rfl, q⟩ := one_inv r
    cases q with
    | tup h1 q1 => exact .inl ⟨_, _, rfl, .inr (SqT.of (s _ _ h1)), by rw [q1.length]; exact Post.now s (Rp.int _) h⟩
  | [.str z], r, h =>
    obtain ⟨v, rfl, q⟩ := one_inv r
    cases q
    simp only [lenD] at h
    by_cases hl : z.length ≤ sizeLine
    · rw [if_pos hl] at h; exact .inr ⟨z, rfl, hl, Post.now s (Rp.int _) h⟩
    · rw [if_neg hl] at h; exact h.elim
  | [.none], _, h => exact h.elim
  | [.bool _], _, h => exact h.elim
  | [.int _], _, h => exact h.elim
  | [.dict _], _, h => exact h.elim
  | [], _, h => exact h.elim
  | d1 :: _ :: _, _, h => cases d1 <;> exact h.elim
def tupleD : List D → Res D
  | [.list ds] => .ok (.tuple ds)
  | [.tuple ds] => .ok (.tuple ds)
  | _ => .stuck
theorem cd_tuple : CallD X (.type "tuple") tupleD := by
  refine ⟨_, call_tuple_of, fun vs ds R H Q Ex r s h => ?_⟩
  match ds, r, h with
  | [.list ds], r, h =>
    obtain ⟨v, rfl, q⟩ := one_inv r
    cases q with
    | lst h1 q1 => exact ⟨_, _, rfl, .inl ⟨(ls_same s h1).sq, fun l hl => new_tup q1 s hl h⟩⟩
  | [.tuple ds], r, h =>
    obtain ⟨v, rfl, q⟩ := one_inv r
    cases q with
    | tup h1 q1 => exact ⟨_, _, rfl, .inr ⟨SqT.of (s _ _ h1), Post.now s (Rp.tup h1 q1) h⟩⟩
  | [.none], _, h => exact h.elim
  | [.bool _], _, h => exact h.elim
  | [.int _], _, h => exact h.elim
  | [.str _], _, h => exact h.elim
  | [.dict _], _, h => exact h.elim
  | [], _, h => exact h.elim
  | d1 :: _ :: _, _, h => cases d1 <;> exact h.elim
def listD : List D → Res D
  | [.list ds] => .ok (.list ds)
  | [.tuple ds] => .ok (.list ds)
  | _ => .stuck
theorem cd_list : CallD X (.type "list") listD := by
  refine ⟨_, call_list_of, fun vs ds R H Q Ex r s h => ?_⟩
  match ds, r, h with
  | [.list ds], r, h =>
    obtain ⟨v, rfl, q⟩ := one_inv r
    cases q with
    | lst h1 q1 => exact ⟨_, _, rfl, .inl (ls_same s h1).sq, fun l hl => new_lst q1 s hl h⟩
  | [.tuple ds], r, h =>
    obtain ⟨v, rfl, q⟩ := one_inv r
    cases q with
    | tup h1 q1 => exact ⟨_, _, rfl, .inr (SqT.of (s _ _ h1)), fun l hl => new_lst q1 s hl h⟩
  | [.none], _, h => exact h.elim
  | [.bool _], _, h => exact h.elim
  | [.int _], _, h => exact h.elim
  | [.str _], _, h => exact h.elim
  | [.dict _], _, h => exact h.elim
  | [], _, h => exact h.elim
  | d1 :: _ :: _, _, h => cases d1 <;> exact h.elim
def pairI (o : Int → Int → Res D) : List D → Res D
  | [.int i, .int j] => o i j
  | _ => .stuck
theorem pairI_inv {o : Int → Int → Res D} {vs : List V} {ds : List D} {R H : Hp} {Q : VK} {Ex : XK} {K : PySem.W.Frag} {mg : Str → Option Value} (r : RpA K R vs ds) (h : Post K mg Ex (rV K) R H Q (pairI o ds)) :
    ∃ i j, vs = [.int i, .int j] ∧ Post K mg Ex (rV K) R H Q (o i j) := by
  match ds, r, h with
  | [.int i, .int j], r, h =>
    obtain ⟨v, w, rfl, q1, q2⟩ := two_inv r
    cases q1
    cases q2
    exact ⟨i, j, rfl, h⟩
  | [], _, h => exact h.elim
  | [d1], _, h => cases d1 <;> exact h.elim
  | d1 :: d2 :: _ :: _, _, h => cases d1 <;> first | exact h.elim | (cases d2 <;> exact h.elim)
  | [.none, _], _, h => exact h.elim
  | [.bool _, _], _, h => exact h.elim
  | [.str _, _], _, h => exact h.elim
  | [.list _, _], _, h => exact h.elim
  | [.tuple _, _], _, h => exact h.elim
  | [.dict _, _], _, h => exact h.elim
  | [.int _, .none], _, h => exact h.elim
  | [.int _, .bool _], _, h => exact h.elim
  | [.int _, .str _], _, h => exact h.elim
  | [.int _, .list _], _, h => exact h.elim
  | [.int _, .tuple _], _, h => exact h.elim
  | [.int _, .dict _], _, h => exact h.elim
def divmodD : List D → Res D := pairI fun i j => if 0 < j ∧ j.natAbs.log2 < 9000 then .ok (.tuple [.int (i / j), .int (i % j)]) else .stuck
theorem cd_divmod : CallD X (.builtin "divmod") divmodD := by
  refine ⟨_, call_divmodW, fun vs ds R H Q Ex r s h => ?_⟩
  obtain ⟨i, j, rfl, h'⟩ := pairI_inv r h
  by_cases hl : 0 < j ∧ j.natAbs.log2 < 9000
  · rw [if_pos hl] at h'
    exact ⟨i, j, rfl, ⟨hl.1, PyProof.noPylong_of_log2 hl.2⟩, fun p hp => new_tup (.cons (.int _) (.cons (.int _) .nil)) s hp h'⟩
  · rw [if_neg hl] at h'; exact h'.elim
def min2D : List D → Res D := pairI fun i j => .ok (.int (if j < i then j else i))
def max2D : List D → Res D := pairI fun i j => .ok (.int (if j > i then j else i))
end
end E3
namespace E3
open PySem PySem.Spec PyProof.Rows L2
def PostN (K : PySem.W.Frag) (mg : Str → Option Value) (Ex : XK) (R H : Hp) (Q : VK) : Res D → Prop
  | .ok d => ∀ a R' H', Ext R H R' H' → R' a = none → H a = none → Own K R' H' a d → Q (.ref a) H'
  | .exc x => ∀ c dx H', Same H H' → ExL K mg H x c dx H' → Ex c dx H'
  | .stuck => False
structure DN (X : Cx) (E : WX) (e : Expr) (f : DS → Res D) : Prop where
  run : ∃ t : TE, PE X e t ∧ ∀ (σ : DS) (τ : L2.St) (R H : Hp) (Q : VK), RS X.K R σ τ → Same R H → PostN X.K X.mg (xat E τ) R H Q (f σ) → t τ H Q
theorem PostN.step {K : PySem.W.Frag} {mg : Str → Option Value} {Ex : XK} {R H R1 H1 : Hp} {Q : VK} {r : Res D} (e : Ext R H R1 H1) (h : PostN K mg Ex R H Q r) : PostN K mg Ex R1 H1 Q r := by
  cases r with
  | ok d =>
    refine fun a R' H' x n1 n2 q => h a R' H' (e.trans x) n1 ?_ q
    exact e.hh.free n2
  | exc x => exact fun c dx H' s q => h c dx H' (e.hh.trans s) (q.back e.hh)
  | stuck => exact h
section
variable {X : Cx} {E : WX} {e : Expr} {f : DS → Res D} {pos : Pos}
theorem Post.toN {K : PySem.W.Frag} {mg : Str → Option Value} {Ex : XK} {R H : Hp} {Q : VK} {r : Res D} (h : Post K mg Ex (rV K) R H Q r) : PostN K mg Ex R H Q r := by
  cases r with
  | ok d =>
    intro a R' H' x n1 n2 q
    obtain ⟨o, z1, z2, z3⟩ := q.some
    have rr : Same R' (upd R' a o) := same_new n1
    refine h (.ref a) (upd R' a o) H' ⟨x.rr.trans rr, fun b y w => ?_, x.hh, fun b y w => ?_⟩ ?_
    · by_cases hb : b = a
      · subst hb; rw [upd_same] at w; rw [z1]; exact w
      · rw [upd_ne hb] at w; exact x.sub _ _ w
    · by_cases hb : b = a
      · subst hb; exact .inr (.inl n2)
      · rw [upd_ne hb] at w; exact x.new _ _ w
    · cases d with
      | list ds =>
        obtain ⟨vs, w1, w2⟩ := q
        rw [z1] at w1; cases w1
        exact .lst (.inl (.inl upd_same)) (w2.mono rr)
      | dict ks =>
        obtain ⟨vs, w1, w2⟩ := q
        rw [z1] at w1; cases w1
        exact .dT (.inl upd_same) (w2.mono rr)
      | _ => exact q.elim
  | exc x => exact h
  | stuck => exact h
theorem DN.de (h : DN X E e f) : DE X E e f := by
  obtain ⟨t, h1, h2⟩ := h
  exact ⟨t, h1, fun σ τ R H Q hs s q => h2 σ τ R H Q hs s q.toN⟩
theorem post_bindN {α β : Type} {Ex : XK} {rel : Hp → β → α → Prop} {R H : Hp} {Q : VK} {r : Res α} {g : α → Res D} {T : β → Hp → Prop} (h : PostN X.K X.mg Ex R H Q (r.bind g))
    (k : ∀ d v R' H', Ext R H R' H' → rel R' v d → PostN X.K X.mg Ex R' H' Q (g d) → T v H') : Post X.K X.mg Ex rel R H T r := by
  cases r with
  | ok d => exact fun v R' H' e q => k d v R' H' e q (h.step e)
  | exc x => exact h
  | stuck => exact h
theorem new_own {xs : List V} {ds : List D} {R H : Hp} {Q : VK} {p : Addr} {Ex : XK} {K : PySem.W.Frag} {mg : Str → Option Value} (q : RpA K R xs ds) (s : Same R H) (hp : H p = none) (h : PostN K mg Ex R H Q (.ok (.list ds))) : Q (.ref p) (upd H p (.lst xs)) :=
  h p R _ (Ext.allocH s hp) (s.free hp) hp ⟨xs, upd_same, q⟩
variable {es : List Expr} {ga : DS → Res (List D)}
theorem dn_lst (h : DA X E es ga) : DN X E (.List es pos) (eLst ga) := by
  obtain ⟨t, h1, h2⟩ := h
  refine ⟨_, pe_lst h1, fun σ τ R H Q hs s h => h2 σ τ R H _ hs s (post_bindN h fun xs vs R1 H1 e1 q1 k => ?_)⟩
  unfold lstD at k
  by_cases hl : xs.length ≤ sizeLine
  · rw [if_pos hl] at k
    exact ⟨by rw [q1.length]; exact hl, fun p hp => new_own q1 e1.sub hp k⟩
  · rw [if_neg hl] at k; exact k.elim
theorem dn_dict : DN X E (.Dict [] [] pos) (eC (.dict [])) :=
  ⟨_, pe_dnewT, fun σ τ R H Q hs s h p hp => h p R _ (Ext.allocH s hp) (s.free hp) hp ⟨[], upd_same, .nil⟩⟩
def CallN (X : Cx) (fn : Value) (o : List D → Res D) : Prop :=
  ∃ r : List V → Hp → VK → Prop, CallR X fn r ∧ ∀ (vs : List V) (ds : List D) (R H : Hp) (Q : VK) (Ex : XK), RpA X.K R vs ds → Same R H → PostN X.K X.mg Ex R H Q (o ds) → r vs H Q
theorem CallN.cd {fn : Value} {o : List D → Res D} (h : CallN X fn o) : CallD X fn o := by
  obtain ⟨r, h1, h2⟩ := h
  exact ⟨r, h1, fun vs ds R H Q Ex a s q => h2 vs ds R H Q Ex a s q.toN⟩
variable {x : Str} {id T : String} {p : Pos}
variable {R0 H0 R H : Hp} {σ : SS} {τ : L2.St} {Dn : Ends} {pos' : Pos}
def sNew (i : Nat) (f : DS → Res D) : SF := fun σ => thenR (f (mask σ)) σ fun d => .ok .nx (σ.set i (some (.ow d)))
def flatC : D → Bool
  | .list ds => flatA ds
  | _ => false
def sNewV (i : Nat) (f : DS → Res D) : SF := fun σ => thenR (f (view σ)) σ fun d => if flatC d then .ok .nx (σ.set i (some (.ow d))) else .stuck
theorem RO.notOwned (I : RO X.K R0 H0 R H σ τ) {a : Addr} (h : H a = none) : ¬ owned σ τ a := fun z => by
  obtain ⟨d, q⟩ := (I.ownd z).2.2
  obtain ⟨o, z1, _⟩ := q.some
  rw [h] at z1; cases z1
theorem ds_new (i : Nat) (hN : X.N.Nodup) (hi : X.N[i]? = some x) (hx : Loc X.env.scope x) (he : DN X E e f) (hs : swapsWith e (some (.Name x pos')) pos.line X.env = pure false := by rfl) (hf : X.fn x = true ∨ X.env.scope.names.lookup x = some .local := by first | exact .inl rfl | exact .inr rfl | assumption) :
    DS1 X E (.Assign [.Name x pos'] e pos) (sNew i f) := by
  obtain ⟨t, e1, e2⟩ := he
  refine ⟨_, ps_set hN hi hx e1 hs hf, fun R0 H0 σ τ R H Dn I q => e2 (mask σ) τ R H _ I.mask I.ext.sub ?_⟩
  unfold sNew at q
  cases z : f (mask σ) with
  | ok d =>
    rw [z] at q
    refine fun a R' H' x n1 n2 w => q R' H' _ ((I.step x).putO n1 (I.ext.hh.free n2) w ?_)
    exact RO.notOwned I n2
  | exc x => rw [z] at q; exact fun c dx H' s y => q c dx R H' τ (I.same s) (y.back I.ext.hh)
  | stuck => rw [z] at q; exact q
abbrev MF := List D → List D → Option (D × List D)
def MtD (X : Cx) (id : String) (m : MF) : Prop :=
  ∃ r : V → List V → Hp → VK → Prop, MtM X id r ∧ ∀ (a : Addr) (xs : List V) (c : List D) (vs : List V) (ds : List D) (d : D) (c' : List D) (R H : Hp) (Q : VK), H a = some (.lst xs) → R a = none → RpA X.K R xs c → RpA X.K R vs ds → Same R H → m c ds = some (d, c') →
    (∀ v ys, RpA X.K R ys c' → Rp X.K R v d → Q v (upd H a (.lst ys))) → r (.ref a) vs H Q
def mutK (i : Nat) (σ : SS) (r : Option (D × List D)) (k : D → SS → SR) : SR := match r with
  | some (d, c') => k d (σ.set i (some (.ow (.list c'))))
  | none => .stuck
def ownL (i : Nat) (σ : SS) (k : List D → SR) : SR := match σ[i]? with
  | some (some (.ow (.list c))) => k c
  | _ => .stuck
def sMut (i : Nat) (m : MF) (g : DS → Res (List D)) : SF := fun σ => ownL i σ fun c => thenR (g (mask σ)) σ fun ds => mutK i σ (m c ds) fun _ σ' => .ok .nx σ'
def sMutV (i : Nat) (m : MF) (g : DS → Res (List D)) : SF := fun σ => ownL i σ fun c => thenR (g (view σ)) σ fun ds => if flatA ds then mutK i σ (m c ds) fun _ σ' => .ok .nx σ' else .stuck
theorem ownL_run {i : Nat} {k : List D → SR} (I : RO X.K R0 H0 R H σ τ) (q : SPost X E R0 H0 Dn (ownL i σ k)) : ∃ a xs c, σ[i]? = some (some (.ow (.list c))) ∧ τ[i]? = some (some (.ref a)) ∧ H a = some (.lst xs) ∧ R a = none ∧ RpA X.K R xs c ∧ SPost X E R0 H0 Dn (k c) := by
  unfold ownL at q
  split at q
  · rename_i c hc
    obtain ⟨a, h1, h2, h3, xs, h4, h5⟩ := I.ow i _ hc
    exact ⟨a, xs, c, hc, h1, h4, h2, h5, q⟩
  · exact q.elim
theorem mutK_run {i : Nat} {m : MF} {k : D → SS → SR} {id : String} {a : Addr} {vs : List V} {c ds : List D} {T : VK} {r : V → List V → Hp → VK → Prop}
    (hm : ∀ (a : Addr) (xs : List V) (c : List D) (vs : List V) (ds : List D) (d : D) (c' : List D) (R H : Hp) (Q : VK), H a = some (.lst xs) → R a = none → RpA X.K R xs c → RpA X.K R vs ds → Same R H → m c ds = some (d, c') →
      (∀ v ys, RpA X.K R ys c' → Rp X.K R v d → Q v (upd H a (.lst ys))) → r (.ref a) vs H Q)
    (I : RO X.K R0 H0 R H σ τ) (h1 : σ[i]? = some (some (.ow (.list c)))) (h2 : τ[i]? = some (some (.ref a))) (ra : RpA X.K R vs ds) (q : SPost X E R0 H0 Dn (mutK i σ (m c ds) k))
    (z : ∀ d v σ' H', RO X.K R0 H0 R H' σ' τ → Rp X.K R v d → SPost X E R0 H0 Dn (k d σ') → T v H') : r (.ref a) vs H T := by
  obtain ⟨b, q1, q2, q3, xs, q4, q5⟩ := I.ow i _ h1
  rw [h2] at q1; cases q1
  unfold mutK at q
  split at q
  · rename_i d c' hmc
    exact hm a xs c vs ds d c' R H T q4 q2 q5 ra I.ext.sub hmc fun v ys w1 w2 => z d v _ _ (I.mut (d := .list c') h1 h2 ⟨ys, upd_same, w1⟩) w2 q
  · exact q.elim
theorem tyL {H : Hp} {a : Addr} {xs : List V} (h : H a = some (.lst xs)) : tyV X.K "list" (.ref a) H := .inl ⟨rfl, _, SqL.of h⟩
variable {name : Str} {apos np : Pos} {m : MF} {i j : Nat} {y : Str} {py : Pos}
abbrev PeM (X : Cx) (o : Expr) (name : Str) (id : String) (apos : Pos) (es : List Expr) (pos : Pos) : Prop :=
  ∀ {r : V → List V → Hp → VK → Prop} {to : TE} {t : TA}, MtM X id r → PE X o to → PA X es t → PE X (.Call (.Attribute o name apos) es [] pos) (tBM X.K "list" r to t)
abbrev IsV (X : Cx) (i : Nat) (x : Str) (np : Pos) : Prop := PE X (.Name x np) (tVar i)
theorem isv (i : Nat) (hN : X.N[i]? = some x := by rfl) (hv : Vis X.env.scope x := by first | exact Or.inl rfl | exact Or.inr (Or.inl rfl) | exact Or.inr (Or.inr rfl)) (hd : (x == ("__debug__" : Str)) = false := by decide)
    (hcd : (x == ("__classdict__" : Str)) = false := by decide) : IsV X i x np := pe_var hN hv hd hcd
theorem ds_mut (i : Nat) (hv : IsV X i x np) (hm : MtD X id m) (hpe : PeM X (.Name x np) name id apos (e :: es) pos) (ha : DA X E (e :: es) ga)
    (hs : swapsWith (.Call (.Attribute (.Name x np) name apos) (e :: es) [] pos) none pos'.line X.env = pure false := by rfl) : DS1 X E (.Expr (.Call (.Attribute (.Name x np) name apos) (e :: es) [] pos) pos') (sMut i m ga) := by
  obtain ⟨r, m1, m2⟩ := hm
  obtain ⟨t, a1, a2⟩ := ha
  refine ⟨_, ps_expr (hpe m1 hv a1) hs, fun R0 H0 σ τ R H Dn I q => ?_⟩
  obtain ⟨a, xs, c, h1, h2, h3, h4, h5, q⟩ := ownL_run I q
  refine ⟨_, h2, tyL h3, a2 (mask σ) τ R H _ I.mask I.ext.sub (post_mask I q fun ds vs R' H' J y z => ?_)⟩
  exact mutK_run (id := id) m2 J h1 h2 y z fun d v σ' H2 J2 w1 w2 => w2 R' H2 τ J2
def appendM : MF := fun c ds => match ds with
  | [d] => if c.length < sizeLine then some (.none, c ++ [d]) else none
  | _ => none
theorem md_append : MtD X "list.append" appendM := by
  refine ⟨_, mt_append, fun a xs c vs ds d c' R H Q hH hR hx hv s hm q => ?_⟩
  match ds, hv, hm with
  | [d1], hv, hm =>
    obtain ⟨v, rfl, r⟩ := one_inv hv
    simp only [appendM] at hm
    by_cases hl : c.length < sizeLine
    · rw [if_pos hl] at hm
      cases hm
      exact ⟨a, xs, v, rfl, rfl, hH, by rw [hx.length]; exact hl, q _ _ (hx.append (.cons r .nil)) Rp.non⟩
    · rw [if_neg hl] at hm; cases hm
  | [], _, hm => cases hm
  | d1 :: _ :: _, _, hm => cases d1 <;> cases hm
def rExtG (K : PySem.W.Frag) : V → List V → Hp → VK → Prop := fun x vs H Q => ∃ l b xs zs, x = .ref l ∧ vs = [.ref b] ∧ H l = some (.lst xs) ∧ LsQ K H b zs ∧ xs.length + zs.length ≤ sizeLine ∧ Q .non (upd H l (.lst (xs ++ zs)))
theorem mt_extG : MtM X "list.extend" (rExtG X.K) := fun pins s σ H x vs v us Q I rx rv h => by
  obtain ⟨l, b, xs, zs, rfl, rfl, hH, hB, hz, q⟩ := h
  cases rx
  obtain ⟨u, rfl, ru⟩ := rv.one
  cases ru
  obtain ⟨z, i1, n, r, hl, e⟩ := I.lstM hH
  obtain ⟨z2, i2, n2, r2, e2⟩ := hB.at I
  have hl2 := r2.length
  have sz : i1.toArray.size + i2.toArray.size ≤ sizeLine := by rw [List.size_toArray, List.size_toArray]; omega
  have nl : ¬ (!i1.toArray.isEmpty && Builtin.List.listTooLong (i1.toArray.size + i2.toArray.size)) = true := by
    rw [notLongL sz, Bool.and_false]; exact Bool.false_ne_true
  refine call_meets PySem.F.slot_list_extend ⟨_, e, rfl⟩ PySem.F.entry_list_extend (PySem.F.args_list_extend_2 _ _)
    (AutoSeq1.list_extend_list_list_0 l i1.toArray n b i2.toArray n2 nl (by rw [List.size_toArray]; omega) (by omega)) ⟨e, e2, ?_⟩
  refine ⟨.non, _, I.lset (its' := i1 ++ i2) hH e (by simp) (r.append r2) ?_, rfl, q⟩
  rw [List.length_append]; omega
def extendM : MF := fun c ds => match ds with
  | [.list es] => if c.length + es.length ≤ sizeLine then some (.none, c ++ es) else none
  | _ => none
theorem md_extend : MtD X "list.extend" extendM := by
  refine ⟨_, mt_extG, fun a xs c vs ds d c' R H Q hH hR hx hv s hm q => ?_⟩
  match ds, hv, hm with
  | [.list es], hv, hm =>
    obtain ⟨v, rfl, r⟩ := one_inv hv
    simp only [extendM] at hm
    by_cases hl : c.length + es.length ≤ sizeLine
    · rw [if_pos hl] at hm
      cases hm
      cases r with
      | lst g1 g2 => exact ⟨a, _, xs, _, rfl, rfl, hH, ls_same s g1, by rw [hx.length, g2.length]; exact hl, q _ _ (hx.append g2) Rp.non⟩
    · rw [if_neg hl] at hm; cases hm
  | [.none], _, hm => cases hm
  | [.bool _], _, hm => cases hm
  | [.int _], _, hm => cases hm
  | [.str _], _, hm => cases hm
  | [.tuple _], _, hm => cases hm
  | [.dict _], _, hm => cases hm
  | [], _, hm => cases hm
  | d1 :: _ :: _, _, hm => cases d1 <;> cases hm
end
end E3
namespace E3
open PySem PySem.Spec PyProof.Rows L2
def intsOf : List D → Option (List Int)
  | [] => some []
  | .int i :: r => (intsOf r).map (i :: ·)
  | _ :: _ => none
def keyOf : D → Option (List Int)
  | .tuple xs => intsOf xs
  | _ => none
theorem intsOf_map : ∀ ns : List Int, intsOf (ns.map .int) = some ns
  | [] => rfl
  | n :: r => by
    show (intsOf (r.map .int)).map (n :: ·) = _
    rw [intsOf_map r]; rfl
theorem keyOf_t (ns : List Int) : keyOf (.tuple (ns.map .int)) = some ns := intsOf_map ns
theorem intsOf_inv : ∀ {xs : List D} {ns : List Int}, intsOf xs = some ns → xs = ns.map .int
  | [], _, h => by cases h; rfl
  | .int i :: r, ns, h => by
    have h' : (intsOf r).map (i :: ·) = some ns := h
    cases q : intsOf r with
    | none => rw [q] at h'; cases h'
    | some ms =>
      rw [q] at h'
      cases h'
      rw [intsOf_inv q]; rfl
  | .none :: _, _, h => by cases h
  | .bool _ :: _, _, h => by cases h
  | .str _ :: _, _, h => by cases h
  | .list _ :: _, _, h => by cases h
  | .tuple _ :: _, _, h => by cases h
  | .dict _ :: _, _, h => by cases h
theorem keyOf_inv {d : D} {ns : List Int} (h : keyOf d = some ns) : d = .tuple (ns.map .int) := by
  cases d with
  | tuple xs =>
    have : intsOf xs = some ns := h
    rw [intsOf_inv this]
  | _ => cases h
theorem key_inj {a b : List Int} : (a.map (Sum.inl : Int → Key) = b.map Sum.inl) ↔ a = b := by
  constructor
  · intro h
    induction a generalizing b with
    | nil => cases b with
      | nil => rfl
      | cons _ _ => cases h
    | cons x r ih => cases b with
      | nil => cases h
      | cons y s =>
        rw [List.map_cons, List.map_cons] at h
        injection h with h1 h2
        injection h1 with h1
        rw [h1, ih h2]
  · intro h; rw [h]
def valK (kvs : List (D × D)) (k : List Int) : Option D := (kvs.find? fun p => decide (keyOf p.1 = some k)).map (·.2)
def putKD (kvs : List (D × D)) (k : List Int) (v : D) : List (D × D) :=
  if (kvs.any fun p => decide (keyOf p.1 = some k)) = true then kvs.map (fun p => if keyOf p.1 = some k then (p.1, v) else p) else kvs ++ [(.tuple (k.map .int), v)]
section
variable {K : PySem.W.Frag} {R : Hp}
theorem RpK.any (k : List Int) : ∀ {ks : List (List Key × V)} {kvs : List (D × D)}, RpK K R ks kvs → (ks.any fun kv => decide (kv.1 = k.map Sum.inl)) = kvs.any fun p => decide (keyOf p.1 = some k)
  | _, _, .nil => rfl
  | _, _, .cons (k := j) h r => by
    rw [List.any_cons, List.any_cons, RpK.any k r]
    congr 1
    rw [keyOf_t]
    by_cases e : j = k
    · subst e; simp
    · rw [decide_eq_false (fun z => e (key_inj.mp z)), decide_eq_false (fun z => e (Option.some.inj z))]
theorem RpK.val (k : List Int) : ∀ {ks : List (List Key × V)} {kvs : List (D × D)}, RpK K R ks kvs → (∀ d, valK kvs k = some d → ∃ v, valV ks (k.map Sum.inl) = some v ∧ Rp K R v d) ∧ (valK kvs k = none → valV ks (k.map Sum.inl) = none)
  | _, _, .nil => ⟨fun _ h => (by cases h), fun _ => rfl⟩
  | _, _, .cons (k := j) (v := v) (d := d0) (kvs := ks) (ds := ds) h r => by
    have ih := RpK.val k r
    by_cases e : j = k
    · subst e
      have e1 : valK ((.tuple (j.map .int), d0) :: ds) j = some d0 := by simp [valK, List.find?_cons, keyOf_t]
      rw [e1]
      refine ⟨fun d q => ?_, fun q => by cases q⟩
      cases q
      exact ⟨v, valV_pos rfl, h⟩
    · have e1 : valK ((.tuple (j.map .int), d0) :: ds) k = valK ds k := by simp [valK, List.find?_cons, keyOf_t, e]
      rw [e1, valV_neg (fun z => e (key_inj.mp z))]
      exact ih
theorem RpK.length : ∀ {ks : List (List Key × V)} {kvs : List (D × D)}, RpK K R ks kvs → ks.length = kvs.length
  | _, _, .nil => rfl
  | _, _, .cons _ r => by rw [List.length_cons, List.length_cons, r.length]
theorem RpK.snoc {k : List Int} {v : V} {d : D} (q : Rp K R v d) : ∀ {ks : List (List Key × V)} {kvs : List (D × D)}, RpK K R ks kvs → RpK K R (ks ++ [(k.map Sum.inl, v)]) (kvs ++ [(.tuple (k.map .int), d)])
  | _, _, .nil => .cons q .nil
  | _, _, .cons h r => .cons h (r.snoc q)
theorem RpK.over {k : List Int} {v : V} {d : D} (q : Rp K R v d) : ∀ {ks : List (List Key × V)} {kvs : List (D × D)}, RpK K R ks kvs → RpK K R (ks.map fun kv => if kv.1 = k.map Sum.inl then (kv.1, v) else kv) (kvs.map fun p => if keyOf p.1 = some k then (p.1, d) else p)
  | _, _, .nil => .nil
  | _, _, .cons (k := j) h r => by
    rw [List.map_cons, List.map_cons]
    by_cases e : j = k
    · subst e
      rw [if_pos rfl, if_pos (keyOf_t j)]
      exact .cons q (r.over q)
    · rw [if_neg (fun z => e (key_inj.mp z)), if_neg (fun z => e (Option.some.inj ((keyOf_t j).symm.trans z)))]
      exact .cons h (r.over q)
theorem RpK.put {k : List Int} {v : V} {d : D} {ks : List (List Key × V)} {kvs : List (D × D)} (r : RpK K R ks kvs) (q : Rp K R v d) : RpK K R (putK ks (k.map Sum.inl) v) (putKD kvs k d) := by
  unfold putK putKD
  rw [r.any k]
  split
  · exact r.over q
  · exact r.snoc q
end
section
variable {X : Cx} {E : WX}
def rDIn (neg : Bool) : R2 := fun x y H Q => ∃ a o, y = .ref a ∧ DGet H a x o ∧ Q (.bl (if neg then !o.isSome else o.isSome)) H
theorem op_dIn (hu : X.A.units + 1 < cLine) : OpR X (compareOp .In) (rDIn false) := fun pins s σ H x y v u Q I rx ry h => by
  obtain ⟨a, o, rfl, g, q⟩ := h
  obtain rfl : u = Value.ref a := ry
  exact d_in hu I g rx fun s3 I3 => ⟨.bl o.isSome, H, I3, rfl, q⟩
theorem op_dNotIn (hu : X.A.units + 1 < cLine) : OpR X (compareOp .NotIn) (rDIn true) := fun pins s σ H x y v u Q I rx ry h => by
  obtain ⟨a, o, rfl, g, q⟩ := h
  obtain rfl : u = Value.ref a := ry
  exact d_notIn hu I g rx fun s3 I3 => ⟨.bl (!o.isSome), H, I3, rfl, q⟩
theorem key_run {v : V} {d : D} {ns : List Int} {R H : Hp} (r : Rp X.K R v d) (s : Same R H) (h : keyOf d = some ns) : ∃ b, v = .ref b ∧ H b = some (.tup ((ns.map Sum.inl).map kV)) := by
  have e := keyOf_inv h
  subst e
  cases r with
  | tup h1 h2 =>
    refine ⟨_, rfl, ?_⟩
    rw [s _ _ h1, h2.ints_inv, List.map_map]
    rfl
theorem dget_run {v : V} {d : D} {ns : List Int} {R H : Hp} {a : Addr} {ks : List (List Key × V)} (r : Rp X.K R v d) (s : Same R H) (h : keyOf d = some ns) (hd : Rd R a (.dT ks)) : DGet H a v (valV ks (ns.map Sum.inl)) := by
  obtain ⟨b, rfl, hb⟩ := key_run r s h
  exact .inr ⟨ks, ns.map Sum.inl, b, rd_same s hd, rfl, hb, rfl⟩
def inG : D → D → Res D
  | x, .dict kvs => if obK kvs then .stuck else match keyOf x with
    | some ns => .ok (.bool (valK kvs ns).isSome)
    | none => .stuck
  | x, y => inD x y
def notInG : D → D → Res D
  | x, .dict kvs => if obK kvs then .stuck else match keyOf x with
    | some ns => .ok (.bool (!(valK kvs ns).isSome))
    | none => .stuck
  | x, y => notInD x y
theorem val_some {ks : List (List Key × V)} {kvs : List (D × D)} {ns : List Int} {K : PySem.W.Frag} {R : Hp} (r : RpK K R ks kvs) : (valV ks (ns.map Sum.inl)).isSome = (valK kvs ns).isSome := by
  have q := r.val ns
  cases z : valK kvs ns with
  | none => rw [q.2 z]; rfl
  | some d =>
    obtain ⟨v, e, _⟩ := q.1 d z
    rw [e]; rfl
theorem inG_dict {x : D} {kvs : List (D × D)} {ns : List Int} (ho : obK kvs = false) (hk : keyOf x = some ns) : inG x (.dict kvs) = .ok (.bool (valK kvs ns).isSome) := by
  simp only [inG, ho, hk, Bool.false_eq_true, if_false]
theorem ob_put {kvs : List (D × D)} (k : List Int) (v : D) (ho : obK kvs = false) : obK (putKD kvs k v) = false := by
  unfold putKD
  split
  · cases kvs with
    | nil => rfl
    | cons p r =>
      obtain ⟨p1, p2⟩ := p
      cases p1 <;> first | (simp only [List.map_cons]; split <;> rfl) | (cases ho)
  · cases kvs with
    | nil => rfl
    | cons p r =>
      obtain ⟨p1, p2⟩ := p
      cases p1 <;> first | rfl | (cases ho)
theorem od_inG (hu : X.A.units + 65 < cLine) : OpD X (compareOp .In) inG := by
  obtain ⟨r, h1, h2⟩ := od_in (X := X) hu
  refine ⟨_, OpR.or h1 (op_dIn (by omega)), fun v w x y R H Q Ex rx ry s h => ?_⟩
  cases ry with
  | dT g1 g2 =>
    simp only [inG, g2.noOb, Bool.false_eq_true, if_false] at h
    split at h
    · rename_i ns hk
      refine .inr ⟨_, _, rfl, dget_run rx s hk g1, ?_⟩
      show Q (.bl (valV _ _).isSome) H
      rw [val_some g2]
      exact Post.now s (Rp.bl _) h
    · exact h.elim
  | lst g1 g2 => exact .inl (h2 _ _ _ _ R H Q Ex rx (.lst g1 g2) s (by cases x <;> exact h))
  | tup g1 g2 => exact .inl (h2 _ _ _ _ R H Q Ex rx (.tup g1 g2) s (by cases x <;> exact h))
  | ob g1 g2 => cases g1 <;> exact h.elim
  | _ => cases x <;> exact h.elim
theorem od_notInG (hu : X.A.units + 65 < cLine) : OpD X (compareOp .NotIn) notInG := by
  obtain ⟨r, h1, h2⟩ := od_notIn (X := X) hu
  refine ⟨_, OpR.or h1 (op_dNotIn (by omega)), fun v w x y R H Q Ex rx ry s h => ?_⟩
  cases ry with
  | dT g1 g2 =>
    simp only [notInG, g2.noOb, Bool.false_eq_true, if_false] at h
    split at h
    · rename_i ns hk
      refine .inr ⟨_, _, rfl, dget_run rx s hk g1, ?_⟩
      show Q (.bl (!(valV _ _).isSome)) H
      rw [val_some g2]
      exact Post.now s (Rp.bl _) h
    · exact h.elim
  | lst g1 g2 => exact .inl (h2 _ _ _ _ R H Q Ex rx (.lst g1 g2) s (by cases x <;> exact h))
  | tup g1 g2 => exact .inl (h2 _ _ _ _ R H Q Ex rx (.tup g1 g2) s (by cases x <;> exact h))
  | ob g1 g2 => cases g1 <;> exact h.elim
  | _ => cases x <;> exact h.elim
variable {a b c e o i value : Expr} {f g k : DS → Res D} {pos pos' : Pos}
def ownD (i : Nat) (σ : SS) (k : List (D × D) → SR) : SR := match σ[i]? with
  | some (some (.ow (.dict c))) => k c
  | _ => .stuck
def putS (i : Nat) (σ : SS) (kvs : List (D × D)) (k v : D) : SR := match keyOf k with
  | some ns => if kvs.length < sizeLine then .ok .nx (σ.set i (some (.ow (.dict (putKD kvs ns v))))) else .stuck
  | none => .stuck
def sPut (i : Nat) (fk fv : DS → Res D) : SF := fun σ => ownD i σ fun kvs => thenR (fv (mask σ)) σ fun v => thenR (fk (mask σ)) σ fun k => putS i σ kvs k v
variable {R0 H0 R H : Hp} {σ : SS} {τ : L2.St} {Dn : Ends} {x : Str} {np : Pos} {fk fv : DS → Res D}
theorem ownD_run {i : Nat} {k : List (D × D) → SR} (I : RO X.K R0 H0 R H σ τ) (q : SPost X E R0 H0 Dn (ownD i σ k)) : ∃ a c, σ[i]? = some (some (.ow (.dict c))) ∧ τ[i]? = some (some (.ref a)) ∧ SPost X E R0 H0 Dn (k c) := by
  unfold ownD at q
  split at q
  · rename_i c hc
    obtain ⟨a, h1, _⟩ := I.ow i _ hc
    exact ⟨a, c, hc, h1, q⟩
  · exact q.elim
theorem putS_run {j : Nat} {dk dv : D} {k v : V} {a : Addr} {kvs : List (D × D)} (hc : σ[j]? = some (some (.ow (.dict kvs)))) (h1 : τ[j]? = some (some (.ref a))) (I : RO X.K R0 H0 R H σ τ) (rk : Rp X.K R k dk) (rv : Rp X.K R v dv) (q : SPost X E R0 H0 Dn (putS j σ kvs dk dv)) :
    ∃ H4, DPut H a k v H4 ∧ Dn.nx τ H4 := by
  obtain ⟨a', h1', h2, h3, ks, h4, h5⟩ := I.ow j _ hc
  rw [h1] at h1'; cases h1'
  unfold putS at q
  split at q
  · rename_i ns hk
    split at q
    · rename_i hl
      obtain ⟨b, rfl, hb⟩ := key_run rk I.ext.sub hk
      exact ⟨_, DPut.t h4 hb (by rw [h5.length]; exact hl), q R _ τ (I.mut (d := .dict (putKD kvs ns dv)) hc h1 ⟨_, upd_same, h5.put rv⟩)⟩
    · exact q.elim
  · exact q.elim
theorem ds_put (j : Nat) (hu : X.A.units + 65 < cLine) (hv : IsV X j x np) (hk : DE X E i fk) (hval : DE X E value fv) (hs : swapsWith value (some (.Subscript (.Name x np) i pos')) pos.line X.env = pure false := by rfl) :
    DS1 X E (.Assign [.Subscript (.Name x np) i pos'] value pos) (sPut j fk fv) := by
  obtain ⟨ta, a1, a2⟩ := hk
  obtain ⟨tb, b1, b2⟩ := hval
  refine ⟨_, ps_dput (by omega) hv a1 b1 hs, fun R0 H0 σ τ R H Dn I q => ?_⟩
  obtain ⟨a, kvs, hc, h1, q⟩ := ownD_run I q
  refine b2 (mask σ) τ R H _ I.mask I.ext.sub (post_mask I q fun dv v R' H' J y z => ⟨_, h1, ?_⟩)
  refine a2 (mask σ) τ R' H' _ J.mask J.ext.sub ?_
  have : SPost X E R0 H0 Dn (thenR (fk (mask σ)) σ fun k => putS j σ kvs k dv) := z
  cases w : fk (mask σ) with
  | ok dk =>
    rw [w] at this
    intro k R2 H2 e2 q2
    obtain ⟨H4, w1, w2⟩ := putS_run hc h1 (J.step e2) q2 (y.mono e2.rr) this
    exact ⟨a, H4, rfl, w1, w2⟩
  | exc ex => rw [w] at this; exact fun c dx H2 s y2 => this c dx R' H2 τ (J.same s) (y2.back J.ext.hh)
  | stuck => rw [w] at this; exact this
end
def Walk (K : PySem.W.Frag) (J : It) (R : Hp) (ds : List D) : Prop := ∀ R' H' : Hp, Same R R' → Same R' H' →
  (∀ (i : Nat) (d : D), ds[i]? = some d → J.go i H' ∧ ∀ x H'', J.yld i H' x H'' → ∃ R'', Ext R' H' R'' H'' ∧ Rp K R'' x d) ∧ J.stop ds.length H'
structure DI (X : Cx) (E : WX) (tg iter : Expr) (f : DS → Res (List D)) : Prop where
  run : ∃ wi : TI, PI X tg iter wi ∧ ∀ (σ : DS) (τ : L2.St) (R H : Hp) (Rq : It → Hp → Prop), RS X.K R σ τ → Same R H → Post X.K X.mg (xat E τ) (fun R' (J : It) ds => Walk X.K J R' ds) R H Rq (f σ) → wi τ H Rq
structure DR (X : Cx) (E : WX) (tg iter : Expr) (f : DS → Res (List D)) : Prop where
  run : ∃ wi : TI, PI X tg iter wi ∧ ∀ (σ : DS) (τ : L2.St) (R H : Hp) (Rq : It → Hp → Prop), RS X.K R σ τ → Same R H → Post X.K X.mg (xat E τ) (fun _ (J : It) ds => ∀ R', Walk X.K J R' ds) R H Rq (f σ) → wi τ H Rq
section
variable {X : Cx} {E : WX} {tg e iter : Expr} {f : DS → Res D} {pos p : Pos}
theorem DR.di {f : DS → Res (List D)} (h : DR X E tg iter f) : DI X E tg iter f := by
  obtain ⟨wi, h1, h2⟩ := h
  refine ⟨wi, h1, fun σ τ R H Rq hs s q => h2 σ τ R H Rq hs s ?_⟩
  cases z : f σ with
  | ok ds => rw [z] at q; exact fun J R' H' e w => q J R' H' e (w R')
  | exc x => rw [z] at q; exact q
  | stuck => rw [z] at q; exact q
def seqOf : D → Res (List D)
  | .list ds => .ok ds
  | .tuple ds => .ok ds
  | .dict ((.bool false, .str _) :: kvs) => .ok (kvs.map Prod.snd)
  | _ => .stuck
def iSeq (K : PySem.W.Frag) (tl : TE) : TI := fun τ H Rq => tl τ H fun x H1 => ∃ a, x = .ref a ∧ (((∃ xs, SqL K H1 a xs) ∧ Rq (Itl K a) H1) ∨ ((∃ xs, SqT K H1 a xs) ∧ Rq (Itt K a) H1))
theorem pi_seq {tl : TE} (hl : PE X e tl) : PI X tg e (iSeq X.K tl) := by
  refine ⟨fun pins s σ H Rq I h => ?_⟩
  refine thn (hl.run pins s σ H _ I h) fun v s1 ⟨x, H1, I1, r1, a, ea, q⟩ => ?_
  subst ea
  cases r1
  rcases q with ⟨⟨xs, hq⟩, q⟩ | ⟨⟨xs, hq⟩, q⟩
  · obtain ⟨its, rv, pl, hz⟩ := I1.list hq
    refine wpAny_pyIter_list pl.isList ?_
    refine ⟨s1.heap.objs.size, [s1.heap.objs.size], _, _, H1, rfl, I1.kept (t' := s1.toks) fun b o eb => Heap.get?_push_of_some _ eb, turn_list a _, ⟨_, Heap.get?_push_size _ rfl, rfl, rfl⟩, fun b hb => ?_, q⟩
    obtain rfl : b = s1.heap.objs.size := by simpa using hb
    exact I1.fpOk (Nat.le_refl _) (I1.hok.fresh (Nat.le_refl _))
  · obtain ⟨its, rv, pl, hz⟩ := I1.tuple hq
    refine wpAny_pyIter_tuple (show s1.heap.IsTuple a its.toArray from pl) ?_
    refine ⟨s1.heap.objs.size, [s1.heap.objs.size], _, _, H1, rfl, I1.kept (t' := s1.toks) fun b o eb => Heap.get?_push_of_some _ eb, turn_tuple a _, ⟨_, Heap.get?_push_size _ rfl, rfl, rfl⟩, fun b hb => ?_, q⟩
    obtain rfl : b = s1.heap.objs.size := by simpa using hb
    exact I1.fpOk (Nat.le_refl _) (I1.hok.fresh (Nat.le_refl _))
theorem walk_list {K : PySem.W.Frag} {R : Hp} {a : Addr} {xs : List V} {ds : List D} (h : LsQ K R a xs) (q : RpA K R xs ds) : Walk K (Itl K a) R ds := fun R' H' s1 s2 => by
  have hH : SqL K H' a xs := (ls_same s2 (ls_same s1 h)).sq
  refine ⟨fun i d hd => ?_, xs, hH, by rw [q.length]; exact Nat.le_refl _⟩
  obtain ⟨v, z1, z2⟩ := q.get hd
  refine ⟨⟨xs, v, hH, z1⟩, fun x H'' y => ?_⟩
  obtain ⟨rfl, y⟩ := y
  have e := y xs hH
  rw [z1] at e; cases e
  exact ⟨R', Ext.refl s2, z2.mono s1⟩
theorem walk_tupQ {K : PySem.W.Frag} {R : Hp} {a : Addr} {xs : List V} {ds : List D} (h : SqT K R a xs) (q : RpA K R xs ds) : Walk K (Itt K a) R ds := fun R' H' s1 s2 => by
  have hH : SqT K H' a xs := seqT_same s2 (seqT_same s1 h)
  refine ⟨fun i d hd => ?_, xs, hH, by rw [q.length]; exact Nat.le_refl _⟩
  obtain ⟨v, z1, z2⟩ := q.get hd
  refine ⟨⟨xs, v, hH, z1⟩, fun x H'' y => ?_⟩
  obtain ⟨rfl, y⟩ := y
  have e := y xs hH
  rw [z1] at e; cases e
  exact ⟨R', Ext.refl s2, z2.mono s1⟩
theorem walk_tup {K : PySem.W.Frag} {R : Hp} {a : Addr} {xs : List V} {ds : List D} (h : R a = some (.tup xs)) (q : RpA K R xs ds) : Walk K (Itt K a) R ds := walk_tupQ (SqT.of h) q
theorem di_seq (he : DE X E e f) : DI X E tg e (fun σ => (f σ).bind seqOf) := by
  obtain ⟨t, e1, e2⟩ := he
  refine ⟨_, pi_seq e1, fun σ τ R H Rq hs s q => e2 σ τ R H _ hs s (post_bind s q fun d v R1 H1 x1 q1 h1 => ?_)⟩
  cases q1 with
  | lst g1 g2 => exact ⟨_, rfl, .inl ⟨⟨_, (ls_same x1.sub g1).sq⟩, Post.now x1.sub (walk_list g1 g2) h1⟩⟩
  | tup g1 g2 => exact ⟨_, rfl, .inr ⟨⟨_, SqT.of (x1.sub _ _ g1)⟩, Post.now x1.sub (walk_tup g1 g2) h1⟩⟩
  | dT g1 g2 => cases g2 <;> exact h1.elim
  | ob g1 g2 => cases g1 with
    | wt k1 k2 k3 k4 k5 => exact ⟨_, rfl, .inr ⟨⟨_, .inr ⟨_, _, _, k1, k2, k3, k4, k5⟩⟩, Post.now x1.sub (walk_tupQ (.inr ⟨_, _, _, k1, k2, k3, k4, k5⟩) (RpF.wt_inv g2)) h1⟩⟩
    | _ => exact h1.elim
  | _ => exact h1.elim
def rangeD (lo hi : Int) : List D := (List.range (hi - lo).toNat).map fun (i : Nat) => .int (lo + i)
theorem walk_range {K : PySem.W.Frag} (lo hi : Int) (n : Nat) (hn : n = (hi - lo).toNat) (R : Hp) : Walk K (Itr lo n) R (rangeD lo hi) := fun R' H' s1 s2 => by
  subst hn
  have hl : (rangeD lo hi).length = (hi - lo).toNat := by simp [rangeD]
  refine ⟨fun i d hd => ?_, by rw [hl]; exact Nat.le_refl _⟩
  have hi' : i < (hi - lo).toNat := by rw [← hl]; exact (List.getElem?_eq_some_iff.mp hd).1
  refine ⟨hi', fun x H'' y => ?_⟩
  obtain ⟨rfl, rfl⟩ := y
  unfold rangeD at hd
  rw [List.getElem?_map, List.getElem?_range hi'] at hd
  cases hd
  exact ⟨R', Ext.refl s2, Rp.int _⟩
def rng1 : List D → Res (List D)
  | [.int n] => if -(2 ^ 62) ≤ n ∧ n < 2 ^ 62 then .ok (rangeD 0 n) else .stuck
  | _ => .stuck
def rng2 : List D → Res (List D)
  | [.int a, .int b] => if -(2 ^ 62) ≤ a ∧ a < 2 ^ 62 ∧ -(2 ^ 62) ≤ b ∧ b < 2 ^ 62 then .ok (rangeD a b) else .stuck
  | _ => .stuck
variable {a b : Expr} {ga : DS → Res (List D)}
theorem dr_range1 (hg : Gl X "range") (hm : X.mg "range" = none) (ha : DA X E [a] ga) (hs : starEach [a] X.env = [(false, eval a X.env)] := by rfl) : DR X E tg (.Call (.Name "range" p) [a] [] pos) (fun σ => (ga σ).bind rng1) := by
  obtain ⟨t, a1, a2⟩ := ha
  refine ⟨_, pi_range1 hg hm a1 hs, fun σ τ R H Rq hs s q => a2 σ τ R H _ hs s (post_bind s q fun d v R1 H1 x1 q1 h1 => ?_)⟩
  match d, q1, h1 with
  | [.int n], q1, h1 =>
    obtain ⟨v, rfl, r⟩ := one_inv q1
    cases r
    simp only [rng1] at h1
    split at h1
    · rename_i hl
      refine ⟨n, rfl, hl.1, hl.2, Post.now x1.sub (fun R' => ?_) h1⟩
      exact walk_range 0 n _ (by omega) R'
    · exact h1.elim
  | [], _, h1 => exact h1.elim
  | [.none], _, h1 => exact h1.elim
  | [.bool _], _, h1 => exact h1.elim
  | [.str _], _, h1 => exact h1.elim
  | [.list _], _, h1 => exact h1.elim
  | [.tuple _], _, h1 => exact h1.elim
  | [.dict _], _, h1 => exact h1.elim
  | d1 :: _ :: _, _, h1 => cases d1 <;> exact h1.elim
theorem dr_range2 (hg : Gl X "range") (hm : X.mg "range" = none) (ha : DA X E [a, b] ga) (hs : starEach [a, b] X.env = [(false, eval a X.env), (false, eval b X.env)] := by rfl) (hs2 : starEach [b] X.env = [(false, eval b X.env)] := by rfl) :
    DR X E tg (.Call (.Name "range" p) [a, b] [] pos) (fun σ => (ga σ).bind rng2) := by
  obtain ⟨t, a1, a2⟩ := ha
  refine ⟨_, pi_range2 hg hm a1 hs hs2, fun σ τ R H Rq hs s q => a2 σ τ R H _ hs s (post_bind s q fun d v R1 H1 x1 q1 h1 => ?_)⟩
  match d, q1, h1 with
  | [.int n, .int m], q1, h1 =>
    obtain ⟨v, w, rfl, r, r'⟩ := two_inv q1
    cases r
    cases r'
    simp only [rng2] at h1
    split at h1
    · rename_i hl
      exact ⟨n, m, rfl, hl, Post.now x1.sub (fun R' => walk_range n m _ rfl R') h1⟩
    · exact h1.elim
  | [], _, h1 => exact h1.elim
  | [d1], _, h1 => cases d1 <;> exact h1.elim
  | d1 :: d2 :: d3 :: _, _, h1 => cases d1 <;> cases d2 <;> exact h1.elim
  | [.none, _], _, h1 => exact h1.elim
  | [.bool _, _], _, h1 => exact h1.elim
  | [.str _, _], _, h1 => exact h1.elim
  | [.list _, _], _, h1 => exact h1.elim
  | [.tuple _, _], _, h1 => exact h1.elim
  | [.dict _, _], _, h1 => exact h1.elim
  | [.int _, .none], _, h1 => exact h1.elim
  | [.int _, .bool _], _, h1 => exact h1.elim
  | [.int _, .str _], _, h1 => exact h1.elim
  | [.int _, .list _], _, h1 => exact h1.elim
  | [.int _, .tuple _], _, h1 => exact h1.elim
  | [.int _, .dict _], _, h1 => exact h1.elim
def forS (p : GF) (body : SF) : List D → SS → SR
  | [], σ => .ok .nx σ
  | d :: ds, σ => match p d σ with
    | none => .stuck
    | some σ1 => match body σ1 with
      | .ok .nx σ2 => forS p body ds σ2
      | .ok .ct σ2 => forS p body ds σ2
      | .ok .bk σ2 => .ok .nx σ2
      | .ok (.rt v) σ2 => .ok (.rt v) σ2
      | .exc x σ2 => .exc x σ2
      | .stuck => .stuck
def un (H0 R : Hp) : Hp := fun a => match H0 a with
  | some o => some o
  | none => R a
theorem un_l {H0 R : Hp} : Same H0 (un H0 R) := fun a o h => by unfold un; rw [h]
theorem un_none {H0 R : Hp} {a : Addr} : un H0 R a = none ↔ H0 a = none ∧ R a = none := by
  unfold un
  cases H0 a with
  | none => simp
  | some o => simp
theorem un_sub {H0 R H : Hp} (h1 : Same H0 H) (h2 : Same R H) : Same (un H0 R) H := fun a o h => by
  unfold un at h
  cases q : H0 a with
  | none => rw [q] at h; exact h2 _ _ h
  | some o' => rw [q] at h; cases h; exact h1 _ _ q
section
variable {R0 H0 R1 H1 R H : Hp} {σ : SS} {τ : L2.St} {Dn : Ends}
theorem RO.into {K : PySem.W.Frag} (I : RO K R0 H0 R H σ τ) (s1 : Same R0 R1) (s2 : Same R1 R) : RO K R1 (un H0 R1) R H σ τ where
  ext := ⟨s2, I.ext.sub, un_sub I.ext.hh (s2.trans I.ext.sub), fun a o h => by
    cases q : R1 a with
    | some o' => rw [s2 _ _ q] at h; cases h; exact .inl rfl
    | none =>
      refine .inr ?_
      rcases I.ext.new a o h with z | z | z
      · rw [s1 _ _ z] at q; cases q
      · exact .inl (un_none.mpr ⟨z, q⟩)
      · exact .inr z⟩
  sh := I.sh
  ow := fun i d h => by
    obtain ⟨a, h1, h2, h3, h4⟩ := I.ow i d h
    exact ⟨a, h1, h2, un_none.mpr ⟨h3, s2.free h2⟩, h4⟩
  ne := I.ne
  len := I.len
theorem Ext.outof (e1 : Ext R0 H0 R1 H1) (e : Ext R1 (un H0 R1) R H) : Ext R0 H0 R H := ⟨e1.rr.trans e.rr, e.sub, un_l.trans e.hh, fun a o h => by
  rcases e.new a o h with z | z | z
  · exact e1.new a o z
  · exact .inr (.inl (un_none.mp z).1)
  · exact .inr (.inr z)⟩
theorem RO.outof {K : PySem.W.Frag} (e1 : Ext R0 H0 R1 H1) (I : RO K R1 (un H0 R1) R H σ τ) : RO K R0 H0 R H σ τ where
  ext := e1.outof I.ext
  sh := I.sh
  ow := fun i d h => by
    obtain ⟨a, h1, h2, h3, h4⟩ := I.ow i d h
    exact ⟨a, h1, h2, (un_none.mp h3).1, h4⟩
  ne := I.ne
  len := I.len
end
variable {body : List Stmt} {pt : GF} {ix : List Nat} {gb : SF} {it : DS → Res (List D)}
theorem for_run {R0 H0 R1 H1 : Hp} {σ : SS} {τ : L2.St} {Dn : Ends} {J : It} {ds : List D} {tg' : TG} {tb : TS}
    (hg : ∀ (R0 H0 : Hp) (d : D) (v : V) (σ σ' : SS) (τ : L2.St) (R H : Hp) (Q : L2.St → Hp → Prop), RO X.K R0 H0 R H σ τ → Rp X.K R v d → pt d σ = some σ' → (∀ R' H' τ', Same R R' → Wp ix τ τ' → RO X.K R0 H0 R' H' σ' τ' → Q τ' H') → tg' v τ H Q)
    (hb : ∀ (R0 H0 : Hp) (σ : SS) (τ : L2.St) (R H : Hp) (Dn : Ends), RO X.K R0 H0 R H σ τ → SPost X E R0 H0 Dn (gb σ) → tb Dn τ H)
    (I : RO X.K R0 H0 R1 H1 σ τ) (w : Walk X.K J R1 ds) (q : SPost X E R0 H0 Dn (forS pt gb ds σ)) :
    ∃ W : Nat → Nat → L2.St → Hp → Prop, (∃ m, W 0 m τ H1) ∧ ∀ i m τ H, W i m τ H → (J.stop i H ∧ Dn.nx τ H) ∨ (J.go i H ∧ ∃ N : L2.St → Hp → Prop, (∀ τ' H', N τ' H' → ∃ m', m' < m ∧ W (i + 1) m' τ' H') ∧
      ∀ x H', J.yld i H x H' → tg' x τ H' fun τ2 H2 => tb { Dn with nx := N, ct := N, bk := Dn.nx } τ2 H2) := by
  have e1 := I.ext
  refine ⟨fun i m τ H => m = ds.length - i ∧ i ≤ ds.length ∧ ∃ σ R, Same R1 R ∧ RO X.K R0 H0 R H σ τ ∧ SPost X E R0 H0 Dn (forS pt gb (ds.drop i) σ), ⟨ds.length, by simp, Nat.zero_le _, σ, R1, Same.refl _, I, by rw [List.drop_zero]; exact q⟩, ?_⟩
  rintro i m τ H ⟨rfl, hi, σ, R, sR, J1, q1⟩
  obtain ⟨w1, w2⟩ := w R H sR J1.ext.sub
  by_cases hlt : i < ds.length
  · have hd : ds[i]? = some ds[i] := List.getElem?_eq_getElem hlt
    obtain ⟨go, yl⟩ := w1 i _ hd
    rw [List.drop_eq_getElem_cons hlt] at q1
    refine .inr ⟨go, fun τ' H' => ∃ σ' R', Same R1 R' ∧ RO X.K R0 H0 R' H' σ' τ' ∧ SPost X E R0 H0 Dn (forS pt gb (ds.drop (i + 1)) σ'), fun τ' H' ⟨σ', R', a, b, c⟩ => ⟨ds.length - (i + 1), by omega, rfl, hlt, σ', R', a, b, c⟩, fun x H' y => ?_⟩
    obtain ⟨R2, x2, r2⟩ := yl x H' y
    have J2 := J1.step x2
    have sR2 : Same R1 R2 := sR.trans x2.rr
    unfold forS at q1
    split at q1
    · exact q1.elim
    · rename_i σ1 hp
      refine hg R0 H0 _ x σ σ1 τ R2 H' _ J2 r2 hp fun R3 H3 τ3 s3 _ J3 => ?_
      have sR3 : Same R1 R3 := sR2.trans s3
      refine hb R1 (un H0 R1) σ1 τ3 R3 H3 _ (J3.into e1.rr sR3) ?_
      cases z : gb σ1 with
      | ok o σ2 =>
        rw [z] at q1
        cases o with
        | nx => exact fun R4 H4 τ4 J4 => ⟨σ2, R4, J4.ext.rr, J4.outof e1, q1⟩
        | ct => exact fun R4 H4 τ4 J4 => ⟨σ2, R4, J4.ext.rr, J4.outof e1, q1⟩
        | bk => exact fun R4 H4 τ4 J4 => q1 R4 H4 τ4 (J4.outof e1)
        | rt d => exact fun v R4 H4 x4 r4 => q1 v R4 H4 (e1.outof x4) r4
      | exc ex σ2 => rw [z] at q1; exact fun c dx R4 H4 τ4 J4 y4 => q1 c dx R4 H4 τ4 (J4.outof e1) (y4.back un_l)
      | stuck => rw [z] at q1; exact q1
  · have e : i = ds.length := by omega
    subst e
    rw [List.drop_length] at q1
    exact .inl ⟨w2, q1 R H τ J1⟩
def sFor (it : DS → Res (List D)) (p : GF) (body : SF) : SF := fun σ => thenR (it (mask σ)) σ fun ds => forS p body ds σ
theorem ds_for (hp : PassesOwn (model X.prog X.w) X.A X.env X.xe) (hc : X.calm = true) (hi : DI X E tg iter it) (hg : DG X tg ix pt) (hb : DSs X E body gb) (hs : ∀ x, foldedSetIterable iter X.env x = pure x := by intro _; rfl) :
    DS1 X E (.For tg iter body [] pos) (sFor it pt gb) := by
  obtain ⟨wi, i1, i2⟩ := hi
  obtain ⟨tg', g1, g2⟩ := hg
  obtain ⟨tb, b1, b2⟩ := hb
  refine ⟨_, ps_for hp hc i1 g1 b1 hs, fun R0 H0 σ τ R H Dn I q => i2 (mask σ) τ R H _ I.mask I.ext.sub (post_mask I q fun ds J R' H' J1 w z => ?_)⟩
  exact for_run g2 b2 J1 w z
def sForR (it : DS → Res (List D)) (p : GF) (body : SF) : SF := fun σ => thenR (it (view σ)) σ fun ds => forS p body ds σ
end
end E3
namespace E3
open PySem PySem.Spec PyProof.Rows L2
def spD (K : PySem.W.Frag) (mg : Str → Option Value) (n : Nat) (F : List D → Res D) : Sp := fun vs H Q Ex =>
  vs.length = n ∧ ∃ R ds, Same R H ∧ RpA K R vs ds ∧ Post K mg Ex (rV K) R H Q (F ds)
def endF : SR → Res D
  | .ok (.rt d) _ => .ok d
  | .ok .nx _ => .ok .none
  | .exc e _ => .exc e
  | _ => .stuck
def startF (N : Nat) (ds : List D) : SS := ds.map (fun d => some (.sh d)) ++ List.replicate (N - ds.length) none
def fnD (N n : Nat) (g : SF) : List D → Res D := fun ds => if ds.length = n then endF (g (startF N ds)) else .stuck
section
variable {P : Program} {w : World} {K : PySem.W.Frag} {mg : Str → Option Value} {base : Heap}
theorem start_ro {N : List Str} {vs : List V} {ds : List D} {R H : Hp} (s : Same R H) (h : RpA K R vs ds) : RO K R H R H (startF N.length ds) (L2.start N vs) := by
  have hl := h.length
  have sh : ∀ (i : Nat) (z : Slot), (startF N.length ds)[i]? = some (some z) → ∃ d, ds[i]? = some d ∧ z = .sh d := fun i z q => by
    unfold startF at q
    by_cases hi : i < ds.length
    · rw [List.getElem?_append_left (by rw [List.length_map]; exact hi), List.getElem?_map, List.getElem?_eq_getElem hi] at q
      cases q
      exact ⟨_, List.getElem?_eq_getElem hi, rfl⟩
    · rw [List.getElem?_append_right (by rw [List.length_map]; omega)] at q
      have := List.mem_of_getElem? q
      rw [List.mem_replicate] at this
      cases this.2
  refine ⟨Ext.refl s, fun i d q => ?_, fun i d q => ?_, fun i j d e a q1 q2 => ?_, ?_⟩
  · obtain ⟨d', h1, h2⟩ := sh i _ q
    cases h2
    obtain ⟨v, z1, z2⟩ := h.get h1
    refine ⟨v, ?_, z2⟩
    unfold L2.start
    have hv : i < vs.length := (List.getElem?_eq_some_iff.mp z1).1
    rw [List.getElem?_append_left (by rw [List.length_map]; exact hv), List.getElem?_map, z1]
    rfl
  · obtain ⟨d', h1, h2⟩ := sh i _ q
    cases h2
  · obtain ⟨d', h1, h2⟩ := sh i _ q1
    cases h2
  · unfold startF L2.start
    simp [hl]
theorem fn_mk {x qual : Str} {st : Stmt} {f : Addr} {fd : FuncData} {N ps : List Str} {k : Nat} {g : SF} (F : Fun K x qual st f fd) (S : FnScope N ps (defScope st))
    (hb : ∀ (cdv : Value) (A : Around) (outer : List Env) (s : Shared) (H : Hp) (Ex : XK), Room k (A.deeper (envOfC qual (defScope st) s.heap.objs.size f cdv)) →
      DSs (cxOf (L2.CX P w) P w K mg base N qual (defScope st) f cdv A outer s H Ex) (fun c d _ H => Ex c d H) (defBody st) g) :
    FnOk P w K mg base (L2.CX P w) (k + 1) f fd ps (spD K mg ps.length (fnD N.length ps.length g)) := by
  refine F.okX S (fun vs H Q Ex h => h.1) (fun cdv A outer s H vs Q Ex hr h => ?_)
  obtain ⟨hl, R, ds, sR, hv, q⟩ := h
  obtain ⟨t, t1, t2⟩ := hb cdv A outer s H Ex hr
  refine ⟨t, t1, t2 R H (startF N.length ds) (L2.start N vs) R H _ (start_ro sR hv) ?_⟩
  unfold fnD at q
  rw [if_pos (by rw [← hv.length]; exact hl)] at q
  cases z : g (startF N.length ds) with
  | ok o σ =>
    rw [z] at q
    cases o with
    | nx => exact fun R' H' τ' J => q _ R' H' J.ext Rp.non
    | rt d => exact fun v R' H' x r => q v R' H' x r
    | bk => exact q.elim
    | ct => exact q.elim
  | exc e σ => rw [z] at q; exact fun c dx R' H' τ' J y => q c dx H' J.ext.hh y
  | stuck => rw [z] at q; exact q.elim
abbrev FnD (P : Program) (w : World) (K : PySem.W.Frag) (mg : Str → Option Value) (base : Heap) (k : Nat) (f : Addr) (fd : FuncData) (ps : List Str) (F : List D → Res D) : Prop :=
  FnOk P w K mg base (L2.CX P w) k f fd ps (spD K mg ps.length F)
end
section
variable {X : Cx} {E : WX} {k : Nat} {f : Addr} {fd : FuncData} {ps : List Str} {F : List D → Res D} {x : Str} {p pos : Pos} {e : Expr} {es : List Expr} {ga : DS → Res (List D)}
theorem de_call (G : FnD X.prog X.w X.K X.mg X.base k f fd ps F) (hr : Room k X.A) (hg : Gl X x) (hm : X.mg x = some (.ref f)) (hk : PySem.W.keepIn X.K (.ref f) = true) (hb : Binds X.K fd ps []) (tk : Takes X E)
    (hF : ∀ ds, ds.length ≠ ps.length → F ds = .stuck) (ha : DA X E (e :: es) ga) (hdb : (x == ("__debug__" : Str)) = false := by decide) (he : starEach (e :: es) X.env = (false, eval e X.env) :: starEach es X.env := by rfl) (hpl : (backTo pos (starEach es X.env)).any (·.1) = false := by rfl) :
    DE X E (.Call (.Name x p) (e :: es) [] pos) (eCall F ga) := by
  obtain ⟨t, a1, a2⟩ := ha
  refine ⟨_, pe_callS G hr hg hm hk hb (fun σ => passAt tk σ) a1 hdb he hpl, fun σ τ R H Q hs s h => a2 σ τ R H _ hs s (post_bind s h fun d v R1 H1 e1 q1 h1 => ?_)⟩
  refine ⟨?_, R1, d, e1.sub, q1, h1⟩
  by_cases hl : d.length = ps.length
  · rw [q1.length]; exact hl
  · rw [hF d hl] at h1; exact h1.elim
theorem fnD_len {N n : Nat} {g : SF} : ∀ ds, ds.length ≠ n → fnD N n g ds = .stuck := fun ds h => if_neg h
def Res.ne {α : Type} : Res α → Res α
  | .ok a => .ok a
  | _ => .stuck
def wipeD (σ : DS) : List Nat → DS
  | [] => σ
  | v :: vs => (wipeD σ vs).set v none
def upS (σ : DS) : SS := σ.map fun o => o.map Slot.sh
def patD (p : GF) (d : D) (σ : DS) : Option DS := (p d (upS σ)).map view
def lcD (p : GF) (c : DS → Res Bool) (f : DS → Res D) (σ : DS) : List D → Res (List D)
  | [] => .ok []
  | d :: ds => match patD p d σ with
    | none => .stuck
    | some σ2 => (c σ2).ne.bind fun b => if b then (f σ2).ne.bind fun y => (lcD p c f σ ds).bind fun ys => .ok (y :: ys) else lcD p c f σ ds
def eLc (it : DS → Res (List D)) (p : GF) (vs : List Nat) (c : DS → Res Bool) (f : DS → Res D) : DS → Res D := fun σ => (it σ).bind fun ds => if ds.length ≤ sizeLine then (lcD p c f (wipeD σ vs) ds).bind fun ys => .ok (.list ys) else .stuck
def tYesD : DS → Res Bool := fun _ => .ok true
abbrev E00 : WX := fun _ _ _ _ => False
structure DTs (X : Cx) (E : WX) (ifs : List Expr) (f : DS → Res Bool) : Prop where
  run : ∃ t : TT, PTs X ifs t ∧ ∀ (σ : DS) (τ : L2.St) (R H : Hp) (Q : Bool → Hp → Prop), RS X.K R σ τ → Same R H → Post X.K X.mg (xat E τ) rB R H Q (f σ) → t τ H Q
theorem dts_nil : DTs X E [] tYesD := ⟨_, pts_nil, fun _ _ _ _ _ _ s h => Post.now s (rel := rB) rfl h⟩
theorem wipe_rs {K : PySem.W.Frag} {R : Hp} {σ : DS} {τ : L2.St} (h : RS K R σ τ) : ∀ vs : List Nat, RS K R (wipeD σ vs) (wipe τ vs)
  | [] => h
  | v :: vs => by
    have ih := wipe_rs h vs
    refine ⟨fun i d q => ?_, by show ((wipeD σ vs).set v none).length = ((wipe τ vs).set v none).length; rw [List.length_set, List.length_set]; exact ih.len⟩
    show ∃ w, ((wipe τ vs).set v none)[i]? = _ ∧ _
    have q' : ((wipeD σ vs).set v none)[i]? = some (some d) := q
    by_cases hv : v = i
    · subst hv
      by_cases hl : v < (wipeD σ vs).length
      · rw [List.getElem?_set_self hl] at q'; cases q'
      · rw [List.getElem?_eq_none (by rw [List.length_set]; omega)] at q'; cases q'
    · rw [List.getElem?_set_ne hv] at q' ⊢
      exact ih.get i d q'
theorem up_ro {K : PySem.W.Frag} {R H : Hp} {σ : DS} {τ : L2.St} (s : Same R H) (h : RS K R σ τ) : RO K R H R H (upS σ) τ := by
  have sh : ∀ (i : Nat) (z : Slot), (upS σ)[i]? = some (some z) → ∃ d, σ[i]? = some (some d) ∧ z = .sh d := fun i z q => by
    obtain ⟨a, h1, h2⟩ := get_map (f := fun o : Option D => o.map Slot.sh) rfl q
    exact ⟨a, h1, (Option.some.inj h2).symm⟩
  refine ⟨Ext.refl s, fun i d q => ?_, fun i d q => ?_, fun i j d e a q1 q2 => ?_, by show (σ.map _).length = _; rw [List.length_map]; exact h.len⟩
  · obtain ⟨d', h1, h2⟩ := sh i _ q
    cases h2
    exact h.get i d h1
  · obtain ⟨d', h1, h2⟩ := sh i _ q
    cases h2
  · obtain ⟨d', h1, h2⟩ := sh i _ q1
    cases h2
theorem wipe_wipe {τ τ2 : L2.St} {ix vs : List Nat} (h : Wp ix (wipe τ vs) τ2) (hv : ∀ i ∈ ix, i ∈ vs) : wipe τ2 vs = wipe τ vs := by
  rw [h vs hv]
  apply List.ext_getElem?
  intro j
  rw [wipe_get, wipe_length, wipe_get]
  split
  · rfl
  · rfl
variable {tg elt iter : Expr} {ifs : List Expr} {scope : Scope} {own : List (Str × Nat)} {pt : GF} {ix : List Nat} {it : DS → Res (List D)} {c : DS → Res Bool} {f : DS → Res D}
theorem lc_run {wi : TI} {g : TG} {tt : TT} {te : TE} {vs : List Nat} {K : PySem.W.Frag} {mg : Str → Option Value} {Ex : L2.St → XK}
    (i2 : ∀ (σ : DS) (τ : L2.St) (R H : Hp) (Rq : It → Hp → Prop), RS K R σ τ → Same R H → Post K mg (Ex τ) (fun R' (J : It) ds => Walk K J R' ds) R H Rq (it σ) → wi τ H Rq)
    (hv : ∀ i ∈ ix, i ∈ vs)
    (g2 : ∀ (R0 H0 : Hp) (d : D) (v : V) (σ σ' : SS) (τ : L2.St) (R H : Hp) (Q : L2.St → Hp → Prop), RO K R0 H0 R H σ τ → Rp K R v d → pt d σ = some σ' → (∀ R' H' τ', Same R R' → Wp ix τ τ' → RO K R0 H0 R' H' σ' τ' → Q τ' H') → g v τ H Q)
    (t2 : ∀ (σ : DS) (τ : L2.St) (R H : Hp) (Q : Bool → Hp → Prop), RS K R σ τ → Same R H → Post K mg (fun _ _ _ => False) rB R H Q (c σ) → tt τ H Q)
    (e2 : ∀ (σ : DS) (τ : L2.St) (R H : Hp) (Q : VK), RS K R σ τ → Same R H → Post K mg (fun _ _ _ => False) (rV K) R H Q (f σ) → te τ H Q)
    {σ : DS} {τ : L2.St} {R H : Hp} {Q : VK} (hs : RS K R σ τ) (s : Same R H) (h : PostN K mg (Ex τ) R H Q (eLc it pt vs c f σ)) : tLc wi g tt te vs τ H Q := by
  refine i2 σ τ R H _ hs s ?_
  unfold eLc at h
  cases z : it σ with
  | exc x => rw [z] at h; exact h
  | stuck => rw [z] at h; exact h
  | ok ds =>
    rw [z] at h
    have h0 : PostN K mg (Ex τ) R H Q (if ds.length ≤ sizeLine then (lcD pt c f (wipeD σ vs) ds).bind fun ys => .ok (.list ys) else .stuck) := h
    by_cases hl : ds.length ≤ sizeLine
    · rw [if_pos hl] at h0
      cases zz : lcD pt c f (wipeD σ vs) ds with
      | stuck => rw [zz] at h0; exact h0.elim
      | exc x =>
        exfalso
        clear h0 h z hl i2
        induction ds with
        | nil => cases zz
        | cons d ds ih =>
          unfold lcD at zz
          split at zz
          · cases zz
          · rename_i σ2 hp
            cases w : c σ2 with
            | ok b =>
              rw [w] at zz
              cases b with
              | true =>
                have zz' : ((f σ2).ne.bind fun y => (lcD pt c f (wipeD σ vs) ds).bind fun ys => .ok (y :: ys)) = Res.exc x := zz
                cases w2 : f σ2 with
                | ok y =>
                  rw [w2] at zz'
                  have zz2 : ((lcD pt c f (wipeD σ vs) ds).bind fun ys => .ok (y :: ys)) = Res.exc x := zz'
                  cases w3 : lcD pt c f (wipeD σ vs) ds with
                  | ok ys => rw [w3] at zz2; cases zz2
                  | exc x' => rw [w3] at zz2; cases zz2; exact ih w3
                  | stuck => rw [w3] at zz2; cases zz2
                | exc _ => rw [w2] at zz'; cases zz'
                | stuck => rw [w2] at zz'; cases zz'
              | false => exact ih zz
            | exc _ => rw [w] at zz; cases zz
            | stuck => rw [w] at zz; cases zz
      | ok zs =>
        rw [zz] at h0
        intro J R1 H1 x1 wk Dl hD
        have hs1 := hs.mono x1.rr
        have h1 : PostN K mg (Ex τ) R1 H1 Q (.ok (.list zs)) := PostN.step x1 h0
        have q0 : Same H1 (upd H1 Dl (.lst [])) := same_new hD
        refine ⟨fun i m H => m = ds.length - i ∧ i ≤ ds.length ∧ ∃ R acc ys ws, Ext R1 H1 R H ∧ R Dl = none ∧ H Dl = some (.lst acc) ∧ RpA K R acc ys ∧ acc.length ≤ i ∧ lcD pt c f (wipeD σ vs) (ds.drop i) = .ok ws ∧ zs = ys ++ ws,
          ⟨ds.length, by simp, Nat.zero_le _, R1, [], [], zs, Ext.allocH x1.sub hD, x1.sub.free hD, upd_same, .nil, Nat.le_refl _, by rw [List.drop_zero]; exact zz, rfl⟩, ?_⟩
        rintro i m H2 ⟨rfl, hi, R2, acc, ys, ws, x2, n2, hacc, ra, la, hlc, hz⟩
        obtain ⟨w1, w2⟩ := wk R2 H2 x2.rr x2.sub
        by_cases hlt : i < ds.length
        · have hd : ds[i]? = some ds[i] := List.getElem?_eq_getElem hlt
          obtain ⟨go, yl⟩ := w1 i _ hd
          rw [List.drop_eq_getElem_cons hlt] at hlc
          refine .inr ⟨go, fun H' => ∃ R acc ys ws, Ext R1 H1 R H' ∧ R Dl = none ∧ H' Dl = some (.lst acc) ∧ RpA K R acc ys ∧ acc.length ≤ i + 1 ∧ lcD pt c f (wipeD σ vs) (ds.drop (i + 1)) = .ok ws ∧ zs = ys ++ ws,
            fun H' ⟨R, acc, ys, ws, a, b, c', d', e', f', g'⟩ => ⟨ds.length - (i + 1), by omega, rfl, hlt, R, acc, ys, ws, a, b, c', d', e', f', g'⟩, fun x H3 y => ?_⟩
          obtain ⟨R3, x3, r3⟩ := yl x H3 y
          unfold lcD at hlc
          split at hlc
          · cases hlc
          · rename_i σ2 hp
            unfold patD at hp
            cases hp2 : pt ds[i] (upS (wipeD σ vs)) with
            | none => rw [hp2] at hp; cases hp
            | some σ3 =>
              rw [hp2] at hp
              obtain rfl : view σ3 = σ2 := Option.some.inj hp
              have hsw : RS K R3 (wipeD σ vs) (wipe τ vs) := (wipe_rs hs1 vs).mono (x2.rr.trans x3.rr)
              refine g2 R3 H3 ds[i] x (upS (wipeD σ vs)) σ3 (wipe τ vs) R3 H3 _ (up_ro x3.sub hsw) r3 hp2 fun R4 H4 τ4 s4 w4 J4 => ⟨wipe_wipe w4 hv, ?_⟩
              have x4 : Ext R3 H3 R4 H4 := J4.ext
              have hs4 : RS K (full σ3 τ4 R4 H4) (view σ3) τ4 := J4.viewed
              have x4' : Ext R3 H3 (full σ3 τ4 R4 H4) H4 := J4.extF
              have keep : ∀ {Rn Hn : Hp}, Ext R2 H2 Rn Hn → Rn Dl = none ∧ Hn Dl = some (.lst acc) := fun {Rn Hn} e => by
                refine ⟨?_, e.hh _ _ hacc⟩
                cases q : Rn Dl with
                | none => rfl
                | some o =>
                  rcases e.new _ _ q with z | z | ⟨_, z⟩
                  · rw [n2] at z; cases z
                  · rw [hacc] at z; cases z
                  · have w1 := e.hh _ _ hacc
                    rw [e.sub _ _ q, z] at w1; cases w1
              cases w : c (view σ3) with
              | exc _ => rw [w] at hlc; cases hlc
              | stuck => rw [w] at hlc; cases hlc
              | ok b =>
                rw [w] at hlc
                refine t2 (view σ3) τ4 (full σ3 τ4 R4 H4) H4 _ hs4 x4'.sub ?_
                rw [w]
                intro b' R5 H5 x5 q5
                subst q5
                have x5' : Ext R2 H2 R5 H5 := (x3.trans x4').trans x5
                cases b' with
                | false =>
                  have hlc' : lcD pt c f (wipeD σ vs) (ds.drop (i + 1)) = .ok ws := hlc
                  rw [if_neg Bool.false_ne_true]
                  obtain ⟨k1, k2⟩ := keep x5'
                  exact ⟨R5, acc, ys, ws, x2.trans x5', k1, k2, ra.mono x5'.rr, by omega, hlc', hz⟩
                | true =>
                  rw [if_pos rfl]
                  have hlc' : ((f (view σ3)).ne.bind fun y => (lcD pt c f (wipeD σ vs) (ds.drop (i + 1))).bind fun ys => .ok (y :: ys)) = Res.ok ws := hlc
                  cases wf : f (view σ3) with
                  | exc _ => rw [wf] at hlc'; cases hlc'
                  | stuck => rw [wf] at hlc'; cases hlc'
                  | ok dy =>
                    rw [wf] at hlc'
                    have hlc2 : ((lcD pt c f (wipeD σ vs) (ds.drop (i + 1))).bind fun ys => .ok (dy :: ys)) = Res.ok ws := hlc'
                    cases wl : lcD pt c f (wipeD σ vs) (ds.drop (i + 1)) with
                    | exc _ => rw [wl] at hlc2; cases hlc2
                    | stuck => rw [wl] at hlc2; cases hlc2
                    | ok ws' =>
                      rw [wl] at hlc2
                      have ew : dy :: ws' = ws := by injection hlc2
                      refine e2 (view σ3) τ4 R5 H5 _ (hs4.mono x5.rr) x5.sub ?_
                      rw [wf]
                      intro v R6 H6 x6 q6
                      have x6' : Ext R2 H2 R6 H6 := x5'.trans x6
                      obtain ⟨k1, k2⟩ := keep x6'
                      refine ⟨acc, k2, by omega, R6, acc ++ [v], ys ++ [dy], ws', ?_, k1, upd_same, (ra.mono x6'.rr).append (.cons q6 .nil), by rw [List.length_append, List.length_singleton]; omega, rfl, ?_⟩
                      · have y6 := x2.trans x6'
                        refine ⟨y6.rr, fun b o e => ?_, fun b o e => ?_, y6.new⟩
                        · rw [upd_ne (fun z => by rw [z, k1] at e; cases e)]; exact y6.sub _ _ e
                        · rw [upd_ne (fun z => by rw [z, hD] at e; cases e)]; exact y6.hh _ _ e
                      · rw [hz, ← ew, List.append_assoc]; rfl
        · have e : i = ds.length := by omega
          subst e
          rw [List.drop_length] at hlc
          have : ws = [] := by injection hlc with e; exact e.symm
          subst this
          rw [List.append_nil] at hz
          refine .inl ⟨w2, h1 Dl R2 H2 x2 n2 hD ⟨acc, hacc, by rw [hz]; exact ra⟩⟩
    · rw [if_neg hl] at h0; exact h0.elim
def TF (K : PySem.W.Frag) (mg : Str → Option Value) (E : WX) (f : DS → Res D) : TE := fun τ H Q => ∃ σ R, RS K R σ τ ∧ Same R H ∧ Post K mg (xat E τ) (rV K) R H Q (f σ)
def TFT (K : PySem.W.Frag) (mg : Str → Option Value) (E : WX) (f : DS → Res Bool) : TT := fun τ H Q => ∃ σ R, RS K R σ τ ∧ Same R H ∧ Post K mg (xat E τ) rB R H Q (f σ)
def TFG (K : PySem.W.Frag) (ix : List Nat) (p : GF) : TG := fun v τ H Q => ∃ R0 H0 d σ σ' R, RO K R0 H0 R H σ τ ∧ Rp K R v d ∧ p d σ = some σ' ∧ ∀ R' H' τ', Same R R' → Wp ix τ τ' → RO K R0 H0 R' H' σ' τ' → Q τ' H'
theorem DE.pe {e : Expr} {f : DS → Res D} (h : DE X E e f) : PE X e (TF X.K X.mg E f) := by
  obtain ⟨t, h1, h2⟩ := h
  exact ⟨fun pins s σ H Q I ⟨σD, R, a, b, c⟩ => h1.run pins s σ H Q I (h2 σD σ R H Q a b c)⟩
theorem DTs.pts {es : List Expr} {f : DS → Res Bool} (h : DTs X E es f) : PTs X es (TFT X.K X.mg E f) := by
  obtain ⟨t, h1, h2⟩ := h
  exact ⟨fun pins s σ H Q I ⟨σD, R, a, b, c⟩ => h1.run pins s σ H Q I (h2 σD σ R H Q a b c)⟩
theorem DG.pg {tg : Expr} {ix : List Nat} {p : GF} (h : DG X tg ix p) : PG X tg (TFG X.K ix p) := by
  obtain ⟨t, h1, h2⟩ := h
  exact ⟨fun pins s σ H v u Q I r ⟨R0, H0, d, σD, σ', R, a, b, c, q⟩ => h1.run pins s σ H v u Q I r (h2 R0 H0 d v σD σ' σ R H Q a b c q)⟩
theorem dn_lc (hc : X.calm = true) (hN : X.N.Nodup) (hi : DI X E tg iter it) (ok : BlkOk X.N X.env.scope scope own) (hv : ∀ i ∈ ix, i ∈ own.map (·.2))
    (hg : ∀ (s : Shared) (H : Hp) (C : Addr) (cl : List (Str × Addr)) (fp : List Addr), DG (X.blk s H scope (compEnvC scope cl C X.env) fp) tg ix pt)
    (ht : ∀ (s : Shared) (H : Hp) (C : Addr) (cl : List (Str × Addr)) (fp : List Addr), DTs (X.blk s H scope (compEnvC scope cl C X.env) fp) E00 ifs c)
    (he : ∀ (s : Shared) (H : Hp) (C : Addr) (cl : List (Str × Addr)) (fp : List Addr), DE (X.blk s H scope (compEnvC scope cl C X.env) fp) E00 elt f)
    (hs : ∀ x, foldedSetIterable iter X.env x = pure x := by intro _; rfl) :
    DN X E (.ListComp elt [⟨tg, iter, ifs, 0⟩] scope pos) (eLc it pt (own.map (·.2)) c f) := by
  obtain ⟨wi, i1, i2⟩ := hi
  refine ⟨_, pe_lc (g := TFG X.K ix pt) (tt := TFT X.K X.mg E00 c) (te := TF X.K X.mg E00 f) hc hN i1 ok (fun s H C cl fp => (hg s H C cl fp).pg) (fun s H C cl fp => (ht s H C cl fp).pts) (fun s H C cl fp => (he s H C cl fp).pe) hs, fun σ τ R H Q hs s h => ?_⟩
  exact lc_run (K := X.K) (mg := X.mg) (Ex := fun τ => xat E τ) i2 hv (fun R0 H0 d v σ σ' τ R H Q a b c q => ⟨R0, H0, d, σ, σ', R, a, b, c, q⟩) (fun σ τ R H Q a b c => ⟨σ, R, a, b, c⟩) (fun σ τ R H Q a b c => ⟨σ, R, a, b, c⟩) hs s h
theorem ds_setLc (i : Nat) {y : Str} {py spos : Pos} (hc : X.calm = true) (hN : X.N.Nodup) (hy : X.N[i]? = some y) (hyl : X.env.scope.names.lookup y = some .local)
    (hsw : swapsWith (.ListComp elt [⟨tg, iter, ifs, 0⟩] scope pos) (some (.Name y py)) spos.line X.env = pure true) (hi : DI X E tg iter it) (ok : BlkOk X.N X.env.scope scope own) (hv : ∀ i ∈ ix, i ∈ own.map (·.2))
    (hg : ∀ (s : Shared) (H : Hp) (C : Addr) (cl : List (Str × Addr)) (fp : List Addr), DG (X.blk s H scope (compEnvC scope cl C X.env) fp) tg ix pt)
    (ht : ∀ (s : Shared) (H : Hp) (C : Addr) (cl : List (Str × Addr)) (fp : List Addr), DTs (X.blk s H scope (compEnvC scope cl C X.env) fp) E00 ifs c)
    (he : ∀ (s : Shared) (H : Hp) (C : Addr) (cl : List (Str × Addr)) (fp : List Addr), DE (X.blk s H scope (compEnvC scope cl C X.env) fp) E00 elt f)
    (hs : ∀ x, foldedSetIterable iter X.env x = pure x := by intro _; rfl) :
    DS1 X E (.Assign [.Name y py] (.ListComp elt [⟨tg, iter, ifs, 0⟩] scope pos) spos) (sSet i (eLc it pt (own.map (·.2)) c f)) := by
  obtain ⟨wi, i1, i2⟩ := hi
  refine ⟨_, ps_setLc (g := TFG X.K ix pt) (tt := TFT X.K X.mg E00 c) (te := TF X.K X.mg E00 f) hc hN hy hyl hsw i1 ok (fun s H C cl fp => (hg s H C cl fp).pg) (fun s H C cl fp => (ht s H C cl fp).pts) (fun s H C cl fp => (he s H C cl fp).pe) hs, fun R0 H0 σ τ R H Dn I q => ?_⟩
  refine lc_run (K := X.K) (mg := X.mg) (Ex := fun τ => xat E τ) i2 hv (fun R0 H0 d v σ σ' τ R H Q a b c q => ⟨R0, H0, d, σ, σ', R, a, b, c, q⟩) (fun σ τ R H Q a b c => ⟨σ, R, a, b, c⟩) (fun σ τ R H Q a b c => ⟨σ, R, a, b, c⟩) I.mask I.ext.sub (Post.toN ?_)
  exact post_mask I q fun d v R' H' J y z => z _ _ _ (J.put y)
def boolsOf : List D → Option (List Bool)
  | [] => some []
  | .bool b :: r => (boolsOf r).map (b :: ·)
  | _ :: _ => none
theorem bools_run {K : PySem.W.Frag} {R : Hp} : ∀ {vs : List V} {ds : List D} {bs : List Bool}, RpA K R vs ds → boolsOf ds = some bs → vs = bs.map V.bl
  | _, _, _, .nil, h => by cases h; rfl
  | _, _, bs, .cons (d := .bool b) (ds := ds) h r, q => by
    have q' : (boolsOf ds).map (b :: ·) = some bs := q
    cases z : boolsOf ds with
    | none => rw [z] at q'; cases q'
    | some cs =>
      rw [z] at q'
      cases q'
      cases h
      rw [bools_run r z]; rfl
  | _, _, _, .cons (d := .none) _ _, q => by cases q
  | _, _, _, .cons (d := .int _) _ _, q => by cases q
  | _, _, _, .cons (d := .str _) _ _, q => by cases q
  | _, _, _, .cons (d := .list _) _ _, q => by cases q
  | _, _, _, .cons (d := .tuple _) _ _, q => by cases q
  | _, _, _, .cons (d := .dict _) _ _, q => by cases q
def overB (o : List Bool → Bool) : List D → Res D
  | [.list ds] => match boolsOf ds with
    | some bs => .ok (.bool (o bs))
    | none => .stuck
  | _ => .stuck
def allD : List D → Res D := overB fun bs => bs.all id
def anyD : List D → Res D := overB fun bs => bs.any id
theorem overB_run {o : List Bool → Bool} {K : PySem.W.Frag} {mg : Str → Option Value} {Ex : XK} {R H : Hp} {Q : VK} {vs : List V} {ds : List D} (r : RpA K R vs ds) (s : Same R H) (h : Post K mg Ex (rV K) R H Q (overB o ds)) : ∃ a bs, vs = [.ref a] ∧ SqL K H a (bs.map V.bl) ∧ Q (.bl (o bs)) H := by
  match ds, r, h with
  | [.list es], r, h =>
    obtain ⟨v, rfl, q⟩ := one_inv r
    cases q with
    | lst g1 g2 =>
      simp only [overB] at h
      split at h
      · rename_i bs hb
        refine ⟨_, bs, rfl, ?_, Post.now s (Rp.bl _) h⟩
        rw [← bools_run g2 hb]
        exact (ls_same s g1).sq
      · exact h.elim
  | [], _, h => exact h.elim
  | [.none], _, h => exact h.elim
  | [.bool _], _, h => exact h.elim
  | [.int _], _, h => exact h.elim
  | [.str _], _, h => exact h.elim
  | [.tuple _], _, h => exact h.elim
  | [.dict _], _, h => exact h.elim
  | d1 :: _ :: _, _, h => cases d1 <;> exact h.elim
theorem cd_all (hc : X.calm = true) : CallD X (.builtin "all") allD := ⟨_, cr_all hc, fun vs ds R H Q Ex r s h => overB_run r s h⟩
theorem cd_any (hc : X.calm = true) : CallD X (.builtin "any") anyD := ⟨_, cr_any hc, fun vs ds R H Q Ex r s h => overB_run r s h⟩
end
end E3
namespace E3
open PySem PySem.Spec PyProof.Rows L2
def tyN : D → String
  | .none => "NoneType"
  | .bool _ => "bool"
  | .int _ => "int"
  | .str _ => "str"
  | .list _ => "list"
  | .tuple _ => "tuple"
  | .dict _ => "dict"
def isiT (T : String) (d : D) : Bool := match d with
  | .none => false
  | .bool _ => T == "bool" || T == "int"
  | .int _ => T == "int"
  | .str _ => T == "str"
  | .list _ => T == "list"
  | .tuple _ => T == "tuple"
  | .dict _ => T == "dict"
def TOk (T : String) : Prop := ∀ d : D, kitB (tyN d) T = some (isiT T d)
theorem tok_bool : TOk "bool" := fun d => by cases d <;> (show kitB _ _ = some _; simp only [tyN, isiT]; decide +kernel)
theorem tok_int : TOk "int" := fun d => by cases d <;> (show kitB _ _ = some _; simp only [tyN, isiT]; decide +kernel)
theorem tok_list : TOk "list" := fun d => by cases d <;> (show kitB _ _ = some _; simp only [tyN, isiT]; decide +kernel)
theorem tok_tuple : TOk "tuple" := fun d => by cases d <;> (show kitB _ _ = some _; simp only [tyN, isiT]; decide +kernel)
section
variable {X : Cx} {E : WX} {e : Expr} {f : DS → Res D} {pos p p2 : Pos} {T : String} {x : Str}
theorem ty_run {v : V} {d : D} {R H : Hp} (r : Rp X.K R v d) (s : Same R H) (nd : ∀ k, d ≠ .dict k) : TyX X.K H v (.type (tyN d)) := by
  cases r with
  | non => exact .base .non
  | bl b => exact .base (.bl b)
  | int i => exact .base (.int i)
  | str y => exact .base (.str y)
  | lst h _ =>
    rcases ls_same s h with (h | ⟨o, h⟩) | ⟨its, n, h, _⟩
    · exact .base (.lst h)
    · exact .base (.frz h)
    · exact .kList h rfl
  | tup h _ => exact .base (.tup (s _ _ h))
  | dT _ _ => exact absurd rfl (nd _)
  | ob _ _ => exact absurd rfl (nd _)
def isiD (T : String) : D → Res D
  | .dict _ => .stuck
  | d => .ok (.bool (isiT T d))
theorem de_isi (hT : TOk T) (hc : X.mg "isinstance" = none) (hg : Gl X "isinstance") (he : DE X E e f) (hgT : Gl X x) (hmT : X.mg x = none) (hbT : bootBuiltins x = some (.type T)) (hn : x ≠ "__name__" := by decide) (hdb : (x == ("__debug__" : Str)) = false := by decide)
    (h1 : starEach [e, .Name x p2] X.env = (false, eval e X.env) :: starEach [.Name x p2] X.env := by rfl) (h2 : starEach [.Name x p2] X.env = (false, eval (.Name x p2) X.env) :: starEach [] X.env := by rfl)
    (hpl : (backTo pos (starEach [.Name x p2] X.env)).any (·.1) = false := by rfl) : DE X E (.Call (.Name "isinstance" p) [e, .Name x p2] [] pos) (e1 (isiD T) f) := by
  obtain ⟨t, a1, a2⟩ := he
  refine ⟨_, pe_callB call_isi hg hc boot_isinstance (pa_cons a1 (pa_cons (pe_bltn (v := .ty T) hgT hmT hbT rfl hn hdb) pa_nil h2) h1) (by decide) (by decide) h1 hpl, fun σ τ R H Q hs s h => a2 σ τ R H _ hs s (post_bind s h fun d v R1 H1 x1 q1 k => ?_)⟩
  have nd : ∀ k', d ≠ .dict k' := fun k' z => by subst z; exact k.elim
  refine ⟨v, .ty T, _, _, isiT T d, rfl, .ty T, ty_run q1 x1.sub nd, kit_ty (hT d), ?_⟩
  have k' : Post X.K X.mg (xat E τ) (rV X.K) R1 H1 Q (.ok (.bool (isiT T d))) := by cases d <;> first | exact k | exact k.elim
  exact Post.now x1.sub (Rp.bl _) k'
end
def leD' : D → D → Bool := PySem.W.dataLe false (id : D → D)
def sortL (ds : List D) : List D := ds.mergeSort leD'
def isTupNE : D → Bool
  | .tuple (_ :: _) => true
  | _ => false
def noTup : D → Bool
  | .none => false
  | .tuple _ => false
  | _ => true
def sortOk (ds : List D) : Bool := (ds.all fun d => ds.all fun e => PySem.W.alike d e) && ((ds.all isTupNE) || (ds.all noTup)) && PyData.canLayAll0 ds && decide (PyData.depthAll ds ≤ 64) && decide (ds.length ≤ sizeLine)
theorem sortOk_alike {ds : List D} (h : sortOk ds = true) : PySem.W.AllAlike ds := by
  simp only [sortOk, Bool.and_eq_true, List.all_eq_true] at h
  exact fun d hd d' hd' => h.1.1.1.1 d hd d' hd'
theorem sortOk_able {ds : List D} (h : sortOk ds = true) : PySem.W.Sortable ds := by
  simp only [sortOk, Bool.and_eq_true, Bool.or_eq_true, List.all_eq_true] at h
  rcases h.1.1.1.2 with z | z
  · refine .inl fun d hd => ?_
    have := z d hd
    cases d with
    | tuple xs => cases xs with
      | nil => cases this
      | cons x r => exact ⟨x, r, rfl⟩
    | _ => cases this
  · refine .inr fun d hd => ?_
    have := z d hd
    cases d with
    | none => cases this
    | tuple xs => cases this
    | _ => exact ⟨(fun w => by cases w), fun xs w => by cases w⟩
theorem sortOk_can {ds : List D} (h : sortOk ds = true) : PyData.canLayAll0 ds = true := by
  simp only [sortOk, Bool.and_eq_true] at h
  exact h.1.1.2
theorem sortOk_depth {ds : List D} (h : sortOk ds = true) : ∀ d ∈ ds, d.depth ≤ 64 := fun d hd => by
  simp only [sortOk, Bool.and_eq_true, decide_eq_true_eq] at h
  exact Nat.le_trans (PyData.depth_le_depthAll ds d hd) h.1.2
section
variable {X : Cx} {pins : List (Addr × Obj)} {τ : L2.St} {H : Hp} {s : Shared}
theorem each_zip {K : PySem.W.Frag} {H : Hp} : ∀ {xs : List V} {ds : List D} {us : List Value}, DpAll K H xs ds → Vals xs us → PySem.W.EachIs (fun u (b : V × D) => RelV b.1 u ∧ Dp K H b.1 b.2) us (xs.zip ds)
  | _, _, _, .nil, .nil => .nil
  | _, _, _, .cons h r, .cons q t => .cons ⟨q, h⟩ (each_zip r t)
theorem vals_each {K : PySem.W.Frag} {H : Hp} : ∀ {us : List Value} {bs : List (V × D)}, PySem.W.EachIs (fun u (b : V × D) => RelV b.1 u ∧ Dp K H b.1 b.2) us bs → Vals (bs.map (·.1)) us
  | _, _, .nil => .nil
  | _, _, .cons h t => .cons h.1 (vals_each t)
abbrev zsort (xs : List V) (ds : List D) : List (V × D) := (xs.zip ds).mergeSort (PySem.W.dataLe false (·.2))
theorem dp_len {K : PySem.W.Frag} {H : Hp} : ∀ {xs : List V} {ds : List D}, DpAll K H xs ds → xs.length = ds.length
  | _, _, .nil => rfl
  | _, _, .cons _ r => by rw [List.length_cons, List.length_cons, dp_len r]
theorem zip_snd {xs : List V} {ds : List D} (h : xs.length = ds.length) : (xs.zip ds).map (·.2) = ds := by
  rw [List.map_snd_zip]
  omega
theorem zsort_snd {xs : List V} {ds : List D} (h : xs.length = ds.length) : (zsort xs ds).map (·.2) = sortL ds := by
  show ((xs.zip ds).mergeSort (PySem.W.dataLe false (·.2))).map (·.2) = ds.mergeSort leD'
  exact (PySem.W.sort_maps (r := PySem.W.dataLe false fun p : V × D => p.2) (s := leD') (fun p : V × D => p.2) (fun a _ b _ => rfl)).trans (by rw [zip_snd h])
theorem zsort_rp {K : PySem.W.Frag} {R : Hp} {xs : List V} {ds : List D} (h : RpA K R xs ds) : RpA K R ((zsort xs ds).map (·.1)) (sortL ds) := by
  rw [← zsort_snd h.length]
  have all : ∀ b ∈ xs.zip ds, Rp K R b.1 b.2 := by
    induction ds generalizing xs with
    | nil => intro b hb; simp at hb
    | cons d r ih =>
      cases h with
      | cons h1 h2 =>
        intro b hb
        rw [List.zip_cons_cons] at hb
        rcases List.mem_cons.mp hb with e | hb
        · subst e; exact h1
        · exact ih h2 b hb
  have all2 : ∀ b ∈ zsort xs ds, Rp K R b.1 b.2 := fun b hb => all b ((List.mergeSort_perm _ _).mem_iff.mp hb)
  generalize zsort xs ds = l at all2
  induction l with
  | nil => exact .nil
  | cons b l ih => exact .cons (all2 b List.mem_cons_self) (ih fun c hc => all2 c (List.mem_cons_of_mem _ hc))
def rSortD (K : PySem.W.Frag) : List V → Hp → VK → Prop := fun vs H Q => ∃ (a : Addr) (xs : List V) (ds : List D), vs = [.ref a] ∧ SqL K H a xs ∧ DpAll K H xs ds ∧ sortOk ds = true ∧ ∀ p, H p = none → Q (.ref p) (upd H p (.lst ((zsort xs ds).map (·.1))))
theorem reads_each {xs : List V} {ds : List D} {us : List Value} (I : Inv X pins τ H s) (h : DpAll X.K H xs ds) (v : Vals xs us) : PySem.W.EachIs (fun v (b : V × D) => ∃ as, Reads s.heap v b.2 as) us (xs.zip ds) := by
  refine (each_zip h v).mono fun u b q => ?_
  obtain ⟨as, r⟩ := Dp.reads I b.2 b.1 u q.2 q.1
  exact ⟨as, r⟩
theorem zip_data {xs : List V} {ds : List D} (h : xs.length = ds.length) : (xs.zip ds).map (fun b : V × D => b.2) = ds := zip_snd h
theorem cr_sortD (hu : X.A.units + 70 < cLine) : CallR X (.builtin "sorted") (rSortD X.K) := fun pins s τ H vs us Q I r h => by
  obtain ⟨a, xs, ds, rfl, hl, hd, ok, q⟩ := h
  rw [Vals.ref1 r]
  obtain ⟨its, rv, pl, hz⟩ := I.list hl
  have len := dp_len hd
  refine PySem.W.sorted_data (bs := xs.zip ds) (enc := fun b : V × D => b.2) (R := fun u (b : V × D) => RelV b.1 u ∧ Dp X.K H b.1 b.2) pl.isList (each_zip hd rv) (reads_each I hd rv) (by rw [zip_data len]; exact sortOk_alike ok) (by rw [zip_data len]; exact sortOk_able ok) (by rw [List.length_zip]; omega) (fun b hb => ?_) fun out ho eo => ?_
  · have hm : b.2 ∈ ds := by
      have : b.2 ∈ (xs.zip ds).map (·.2) := List.mem_map.mpr ⟨b, hb, rfl⟩
      rwa [zip_snd len] at this
    have := sortOk_depth ok _ hm
    omega
  · obtain ⟨ep, he'⟩ := PyProof.Rows.sortedAll_at s.heap its out.toArray
    have hv : Vals ((zsort xs ds).map (·.1)) out := vals_each eo
    have hn : H (s.heap.objs.size + 1) = none := I.hok.fresh (Nat.le_succ _)
    have hlen : ((zsort xs ds).map (·.1)).length ≤ sizeLine := by
      rw [List.length_map, (List.mergeSort_perm _ _).length_eq, List.length_zip]; omega
    exact ⟨.ref _, upd H (s.heap.objs.size + 1) (.lst ((zsort xs ds).map (·.1))), I.laid (t' := s.toks) (fun _ _ => PyProof.Rows.sortedAll_old) (Nat.le_succ _) ⟨hlen, out, ep, hv, he'⟩, rfl, q _ hn⟩
def sortedD : List D → Res D
  | [.list ds] => if sortOk ds then .ok (.list (sortL ds)) else .stuck
  | _ => .stuck
theorem cn_sorted (hu : X.A.units + 70 < cLine) : CallN X (.builtin "sorted") sortedD := by
  refine ⟨_, cr_sortD hu, fun vs ds R H Q Ex r s h => ?_⟩
  match ds, r, h with
  | [.list es], r, h =>
    obtain ⟨v, rfl, q⟩ := one_inv r
    cases q with
    | lst g1 g2 =>
      simp only [sortedD] at h
      split at h
      · rename_i ok
        exact ⟨_, _, es, rfl, (ls_same s g1).sq, (g2.mono s).dp (sortOk_can ok), ok, fun p hp => new_own (zsort_rp g2) s hp h⟩
      · exact h.elim
  | [], _, h => exact h.elim
  | [.none], _, h => exact h.elim
  | [.bool _], _, h => exact h.elim
  | [.int _], _, h => exact h.elim
  | [.str _], _, h => exact h.elim
  | [.tuple _], _, h => exact h.elim
  | [.dict _], _, h => exact h.elim
  | d1 :: _ :: _, _, h => cases d1 <;> exact h.elim
def encK (k : List Int) : D := .tuple (k.map .int)
abbrev encL (q : Addr × List Int) : D := encK q.2
theorem alike_encK (a b : List Int) : PySem.W.alike (encK a) (encK b) = true := by
  show PySem.W.alike (.tuple _) (.tuple _) = true
  simp only [PySem.W.alike]
  exact PySem.W.alike_ints a b
theorem depth_encK (a : List Int) : (encK a).depth ≤ 1 := by
  show (PyData.tuple _).depth ≤ 1
  simp only [PyData.depth]
  rw [PySem.W.depth_ints]
  omega
theorem perm_map_ex {α β : Type} (f : α → β) {vs l2 : List β} (h : vs.Perm l2) : ∀ {L : List α}, l2 = L.map f → ∃ L1 : List α, L1.Perm L ∧ vs = L1.map f := by
  induction h with
  | nil =>
    intro L e
    cases L with
    | nil => exact ⟨[], .refl _, rfl⟩
    | cons _ _ => cases e
  | cons x _ ih =>
    intro L e
    cases L with
    | nil => cases e
    | cons y L =>
      rw [List.map_cons] at e
      injection e with e1 e2
      obtain ⟨L1, p1, q1⟩ := ih e2
      exact ⟨y :: L1, p1.cons y, by rw [List.map_cons, ← e1, ← q1]⟩
  | swap x y l =>
    intro L e
    cases L with
    | nil => cases e
    | cons a L => cases L with
      | nil => cases e
      | cons b L =>
        rw [List.map_cons, List.map_cons] at e
        injection e with e1 e2
        injection e2 with e2 e3
        exact ⟨b :: a :: L, List.Perm.swap _ _ _, by rw [List.map_cons, List.map_cons, e1, e2, e3]⟩
  | trans _ _ ih1 ih2 =>
    intro L e
    obtain ⟨L1, p1, q1⟩ := ih2 e
    obtain ⟨L2, p2, q2⟩ := ih1 q1
    exact ⟨L2, p2.trans p1, q2⟩
theorem reads_ints {h : Heap} : ∀ {us : List Value} {k : List Int}, IntsAre us k → ReadsAll h us (k.map .int) []
  | _, _, .nil => .nil
  | _, _, .cons n t r => .cons (as := []) (bs := []) (.int n t) (reads_ints r)
theorem reads_isT {P : Program} {w : World} {h : Heap} {k : List Int} {b : Addr} (x : IsT P w h k b) : Reads h (.ref b) (encK k) [] := by
  obtain ⟨o, items, n, ho, hc, hd, hi⟩ := x
  exact .tuple ho hc hd (reads_ints (ints_of_items hi))
theorem each_L {R : Value → Addr × List Int → Prop} : ∀ (L : List (Addr × List Int)), (∀ q ∈ L, R (.ref q.1) q) → PySem.W.EachIs R (L.map fun q => Value.ref q.1) L
  | [], _ => .nil
  | q :: L, h => .cons (h q List.mem_cons_self) (each_L L fun r hr => h r (List.mem_cons_of_mem _ hr))
theorem each_refs : ∀ {us : List Value} {L : List (Addr × List Int)}, PySem.W.EachIs (fun u q => u = Value.ref q.1) us L → us = L.map fun q => Value.ref q.1
  | _, _, .nil => rfl
  | _, _, .cons h t => by rw [List.map_cons, ← h, each_refs t]
end
end E3
namespace E3
open PySem PySem.Spec PyProof.Rows L2
theorem le_total_LI (a b : List Int) : (decide (a ≤ b) || decide (b ≤ a)) = true := by
  rcases List.le_total a b with h | h
  · simp [h]
  · simp [h]
theorem le_trans_LI (a b c : List Int) (h : decide (a ≤ b) = true) (k : decide (b ≤ c) = true) : decide (a ≤ c) = true :=
  decide_eq_true (List.le_trans (of_decide_eq_true h) (of_decide_eq_true k))
def riseK (ks : List (List Int)) : List (List Int) := ks.mergeSort fun a b => decide (a ≤ b)
theorem riseK_pair (ks : List (List Int)) : (riseK ks).Pairwise (fun a b => a ≤ b) :=
  (List.pairwise_mergeSort le_trans_LI le_total_LI ks).imp fun h => of_decide_eq_true h
theorem riseK_perm (ks : List (List Int)) : (riseK ks).Perm ks := List.mergeSort_perm _ _
theorem riseK_uniq {a b : List (List Int)} (h : a.Perm b) : riseK a = riseK b :=
  List.Perm.eq_of_pairwise (le := fun x y : List Int => x ≤ y) (fun x y _ _ h1 h2 => List.le_antisymm h1 h2) (riseK_pair a) (riseK_pair b) ((riseK_perm a).trans (h.trans (riseK_perm b).symm))
theorem leD_enc (a b : List Int) : leD' (encK a) (encK b) = decide (a ≤ b) := by
  have h := congrFun (congrFun (PySem.W.dataLe_rows (fun x : List Int => x)) a) b
  rw [← h]
  show (!PySem.W.dataLt (.tuple _) (.tuple _)) = (!PySem.W.dataLt (.list _) (.list _))
  rw [PySem.W.dataLt_list, PySem.W.dataLt_tuple]
theorem sortL_enc (ks : List (List Int)) : sortL (ks.map encK) = (riseK ks).map encK :=
  (PySem.W.sort_maps (r := fun a b : List Int => decide (a ≤ b)) (s := leD') encK (fun a _ b _ => (leD_enc a b).symm)).symm
def keysOf : List D → Option (List (List Int))
  | [] => some []
  | d :: r => match keyOf d, keysOf r with
    | some k, some ks => some (k :: ks)
    | _, _ => none
def dd : List (List Int) → List (List Int)
  | [] => []
  | a :: r => if a ∈ dd r then dd r else a :: dd r
theorem mem_dd {x : List Int} : ∀ {l : List (List Int)}, x ∈ dd l ↔ x ∈ l
  | [] => Iff.rfl
  | a :: r => by
    unfold dd
    by_cases h : a ∈ dd r
    · rw [if_pos h]
      constructor
      · intro z; exact List.mem_cons_of_mem _ (mem_dd.mp z)
      · intro z
        rcases List.mem_cons.mp z with e | z
        · rw [e]; exact h
        · exact mem_dd.mpr z
    · rw [if_neg h, List.mem_cons, List.mem_cons, mem_dd]
theorem nodup_dd : ∀ l : List (List Int), (dd l).Nodup
  | [] => List.nodup_nil
  | a :: r => by
    unfold dd
    by_cases h : a ∈ dd r
    · rw [if_pos h]; exact nodup_dd r
    · rw [if_neg h]; exact List.nodup_cons.mpr ⟨h, nodup_dd r⟩
theorem keys_run {K : PySem.W.Frag} {R : Hp} : ∀ {xs : List V} {ds : List D} {ks : List (List Int)}, RpA K R xs ds → keysOf ds = some ks → ∃ L : List (Addr × List Int), xs = L.map (fun p => V.ref p.1) ∧ ks = L.map (·.2) ∧ ∀ p ∈ L, R p.1 = some (.tup (p.2.map V.int))
  | _, _, _, .nil, h => by cases h; exact ⟨[], rfl, rfl, fun p hp => by cases hp⟩
  | _, d :: ds, ks, .cons h r, q => by
    unfold keysOf at q
    split at q
    · rename_i k ks' hk hks
      cases q
      obtain ⟨L, e1, e2, e3⟩ := keys_run r hks
      have ed := keyOf_inv hk
      subst ed
      cases h with
      | tup h1 h2 =>
        rename_i a xs
        refine ⟨(a, k) :: L, by rw [List.map_cons, ← e1], by rw [List.map_cons, ← e2], fun p hp => ?_⟩
        rcases List.mem_cons.mp hp with e | hp
        · subst e
          show R a = some (.tup (k.map V.int))
          rw [h1, h2.ints_inv]
        · exact e3 p hp
    · cases q
section
variable {X : Cx} {E : WX} {e : Expr} {f : DS → Res D} {pos p p2 pos2 : Pos}
theorem refsL {L : List (Addr × List Int)} {R : Hp} {K : PySem.W.Frag} (h : ∀ p ∈ L, R p.1 = some (.tup (p.2.map V.int))) : RpA K R (L.map fun q => V.ref q.1) (L.map encL) := by
  induction L with
  | nil => exact .nil
  | cons q L ih => exact .cons (.tup (h q List.mem_cons_self) (RpA.ints _)) (ih fun p hp => h p (List.mem_cons_of_mem _ hp))
end
section
variable {X : Cx} {E : WX} {e e' a b : Expr} {f g : DS → Res D} {pos p tpos : Pos} {elts : List Expr} {kk : Nat} {ga : DS → Res (List D)}
end
end E3
namespace BS
open PySem PySem.Spec PyProof.Rows L2
def fx : Nat → Nat
  | 0 => 0
  | n + 1 => 5 * fx n + 1
theorem fx_add (a : Nat) : ∀ b, fx (a + b) = 5 ^ b * fx a + fx b
  | 0 => by simp [fx]
  | b + 1 => by
    show 5 * fx (a + b) + 1 = 5 ^ (b + 1) * fx a + (5 * fx b + 1)
    rw [fx_add a b, Nat.pow_succ, Nat.mul_add, ← Nat.mul_assoc, Nat.mul_comm 5 (5 ^ b)]
    omega
theorem fx_pow : ∀ n, 5 ^ n = 4 * fx n + 1
  | 0 => rfl
  | n + 1 => by
    show 5 ^ n * 5 = 4 * (5 * fx n + 1) + 1
    rw [fx_pow n]
    omega
theorem fx_par : ∀ n, fx n % 2 = n % 2
  | 0 => rfl
  | n + 1 => by
    have := fx_par n
    show (5 * fx n + 1) % 2 = (n + 1) % 2
    omega
theorem co_two (v : Nat) : Nat.Coprime 2 (2 * v + 1) := by
  show Nat.gcd 2 (2 * v + 1) = 1
  rw [Nat.gcd_rec]
  have : (2 * v + 1) % 2 = 1 := by omega
  rw [this]
  rfl
theorem odd_co (k v : Nat) : Nat.Coprime (2 ^ k) (2 * v + 1) := Nat.Coprime.pow_left k (co_two v)
theorem fx_dvd : ∀ (s k : Nat), 2 ^ k ∣ fx s → 2 ^ k ∣ s := by
  intro s
  induction s using Nat.strongRecOn with
  | ind s ih =>
    intro k h
    cases k with
    | zero => exact ⟨s, by simp⟩
    | succ k =>
      have h2 : fx s % 2 = 0 := by
        obtain ⟨q, hq⟩ := h
        rw [hq, Nat.pow_succ]
        have : 2 ^ k * 2 * q = 2 * (2 ^ k * q) := by rw [Nat.mul_comm (2 ^ k) 2, Nat.mul_assoc]
        omega
      rw [fx_par] at h2
      obtain ⟨t, rfl⟩ : ∃ t, s = t + t := ⟨s / 2, by omega⟩
      cases t with
      | zero => exact ⟨0, rfl⟩
      | succ t =>
        have e : fx (t + 1 + (t + 1)) = 2 * ((2 * fx (t + 1) + 1) * fx (t + 1)) := by
          rw [fx_add, fx_pow (t + 1)]
          generalize fx (t + 1) = y
          have e1 : 2 * ((2 * y + 1) * y) = (4 * y + 2) * y := by
            rw [← Nat.mul_assoc]
            congr 1
            omega
          rw [e1, Nat.add_mul, Nat.add_mul]
          omega
        rw [e, Nat.pow_succ, Nat.mul_comm (2 ^ k) 2] at h
        have h3 := Nat.dvd_of_mul_dvd_mul_left (by decide : 0 < 2) h
        have h4 := (odd_co k (fx (t + 1))).dvd_of_dvd_mul_left h3
        have h5 := ih (t + 1) (by omega) k h4
        rw [Nat.pow_succ]
        obtain ⟨q, hq⟩ := h5
        exact ⟨q, by rw [Nat.mul_assoc, Nat.mul_comm 2 q, ← Nat.mul_assoc, ← hq]; omega⟩
theorem lcg_fx (m i : Nat) (hi : i ≤ m) : ∀ k, lcgI m i k = (5 ^ k * i + fx k) % (m + 1)
  | 0 => by
    show i = _
    rw [Nat.pow_zero, Nat.one_mul]
    exact (Nat.mod_eq_of_lt (Nat.lt_succ_of_le hi)).symm
  | k + 1 => by
    show (lcgI m i k * 5 + 1) % (m + 1) = (5 ^ (k + 1) * i + (5 * fx k + 1)) % (m + 1)
    rw [lcg_fx m i hi k, Nat.add_mod, Nat.mul_mod, Nat.mod_mod, ← Nat.mul_mod, ← Nat.add_mod, Nat.pow_succ]
    congr 1
    have : 5 ^ k * 5 * i = 5 * (5 ^ k * i) := by rw [Nat.mul_comm (5 ^ k) 5, Nat.mul_assoc]
    rw [this]
    omega
theorem lcg_le (m i : Nat) (hi : i ≤ m) : ∀ k, lcgI m i k ≤ m
  | 0 => hi
  | k + 1 => Nat.le_of_lt_succ (Nat.mod_lt _ (Nat.succ_pos _))
theorem lcg_add (m i a : Nat) : ∀ b, lcgI m i (a + b) = lcgI m (lcgI m i a) b
  | 0 => rfl
  | b + 1 => by
    show (lcgI m i (a + b) * 5 + 1) % (m + 1) = (lcgI m (lcgI m i a) b * 5 + 1) % (m + 1)
    rw [lcg_add m i a b]
def M2 (m : Nat) : Prop := ∃ k, m + 1 = 2 ^ k
theorem lcg_inj {m i : Nat} (hm : M2 m) (hi : i ≤ m) {a b : Nat} (hab : a < b) (hb : b ≤ m) : lcgI m i a ≠ lcgI m i b := by
  obtain ⟨k, hk⟩ := hm
  obtain ⟨s, rfl⟩ : ∃ s, b = a + s := ⟨b - a, by omega⟩
  rw [lcg_add]
  intro e
  have hv := lcg_le m i hi a
  generalize lcgI m i a = v at *
  rw [lcg_fx m v hv s, fx_pow s] at e
  have e1 : (4 * fx s + 1) * v + fx s = (2 * (2 * v) + 1) * fx s + v := by
    rw [Nat.add_mul, Nat.add_mul]
    have : 4 * fx s * v = 2 * (2 * v) * fx s := by
      rw [← Nat.mul_assoc, Nat.mul_right_comm]
    omega
  rw [e1] at e
  have h1 : (2 * (2 * v) + 1) * fx s % (m + 1) = 0 := by
    generalize (2 * (2 * v) + 1) * fx s = z at *
    have hv1 : v % (m + 1) = v := Nat.mod_eq_of_lt (by omega)
    have hz := Nat.mod_lt z (Nat.succ_pos m)
    rw [Nat.add_mod, hv1] at e
    have hz' : z % (m + 1) < m + 1 := hz
    rcases Nat.lt_or_ge (z % (m + 1) + v) (m + 1) with c | c
    · rw [Nat.mod_eq_of_lt c] at e
      omega
    · rw [Nat.mod_eq_sub_mod c, Nat.mod_eq_of_lt (by omega)] at e
      omega
  have h2 := Nat.dvd_of_mod_eq_zero h1
  rw [hk] at h2
  have h3 := (odd_co k (2 * v)).dvd_of_dvd_mul_left h2
  have h4 := fx_dvd s k h3
  rw [← hk] at h4
  have := Nat.le_of_dvd (by omega) h4
  omega
theorem lcg_meets {m i j : Nat} (hm : M2 m) (hi : i ≤ m) (hj : j ≤ m) : ∃ k, k ≤ m ∧ lcgI m i k = j := by
  rcases Classical.em (∃ k, k ≤ m ∧ lcgI m i k = j) with c | c
  · exact c
  · exfalso
    have nd : ((List.range (m + 1)).map (lcgI m i)).Nodup := by
      refine List.pairwise_map.mpr ?_
      refine List.Pairwise.imp_of_mem ?_ (List.pairwise_lt_range (n := m + 1))
      intro a b _ hb hab
      exact lcg_inj hm hi hab (by have := List.mem_range.mp hb; omega)
    have sub : ∀ x ∈ (List.range (m + 1)).map (lcgI m i), x ∈ (List.range (m + 1)).erase j := fun x hx => by
      obtain ⟨a, ha, rfl⟩ := List.mem_map.mp hx
      have h1 := List.mem_range.mp ha
      have ne : lcgI m i a ≠ j := fun e => c ⟨a, by omega, e⟩
      exact (List.mem_erase_of_ne ne).2 (List.mem_range.mpr (Nat.lt_succ_of_le (lcg_le m i hi a)))
    have h := nat_nodup_len _ _ nd sub
    have e := List.length_erase_of_mem (List.mem_range.mpr (Nat.lt_succ_of_le hj))
    rw [List.length_map, List.length_range, e, List.length_range] at h
    omega
theorem search_meets {m : Nat} (hm : M2 m) (h : Int) {j : Nat} (hj : j ≤ m) : ∃ k, k < 10 * SetTable.turns m ∧ (nth m (runAt m (SetTable.bits h % (m + 1)) (SetTable.bits h)) k).j = j := by
  obtain ⟨n, hn, e⟩ := lcg_meets hm (runI_le m (SetTable.bits h) 12) hj
  obtain ⟨k, hk, e2⟩ := run_nth m (SetTable.bits h) (12 + n)
  refine ⟨k, by unfold SetTable.turns; omega, ?_⟩
  rw [e2]
  show runI m (SetTable.bits h) (12 + n) = j
  rw [runI_tail (bits_lt h)]
  exact e
end BS
namespace BS
open PySem PySem.Spec PyProof.Rows L2
theorem way_in (m : Nat) (h : Int) (k : Nat) : way m h k ≤ m := by
  have h0 : SetTable.bits h % (m + 1) ≤ m := Nat.le_of_lt_succ (Nat.mod_lt _ (Nat.succ_pos _))
  have h1 := runEnd_bd h0
  have h2 := nth_in (m := m) k (runAt m (SetTable.bits h % (m + 1)) (SetTable.bits h)) (by
    show SetTable.bits h % (m + 1) + (SetTable.runEnd m (SetTable.bits h % (m + 1)) - SetTable.bits h % (m + 1)) ≤ m
    omega)
  show (nth m (runAt m (SetTable.bits h % (m + 1)) (SetTable.bits h)) k).j ≤ m
  omega
def Reach (m : Nat) (occ : List Nat) (h : Int) (j : Nat) : Prop := ∃ K, way m h K = j ∧ ∀ k, k < K → way m h k ∈ occ
theorem Reach.mono {m : Nat} {occ occ' : List Nat} {h : Int} {j : Nat} (r : Reach m occ h j) (s : ∀ x ∈ occ, x ∈ occ') : Reach m occ' h j := let ⟨K, e, b⟩ := r; ⟨K, e, fun k hk => s _ (b k hk)⟩
theorem free_slot {m : Nat} (hm : M2 m) (occ : List Nat) (hl : occ.length ≤ m) (h : Int) : ∃ K, K < 10 * SetTable.turns m ∧ way m h K ∉ occ ∧ ∀ k, k < K → way m h k ∈ occ := by
  obtain ⟨j, hj, nj⟩ := st_missing occ (m + 1) (by omega)
  obtain ⟨k, hk, e⟩ := search_meets hm h (show j ≤ m by omega)
  obtain ⟨K, a, b, c⟩ := st_least (p := fun k => way m h k ∉ occ) k (by show way m h k ∉ occ; rw [show way m h k = j from e]; exact nj)
  exact ⟨K, by omega, b, fun k hk => Classical.byContradiction fun z => c k hk z⟩
structure Tb (t : SetTable) (hs : List Int) : Prop where
  up : Ris t.place.toList
  nd : t.dummies = #[]
  sz : t.place.toList.length = hs.length
  m2 : M2 t.mask
  le : ∀ x ∈ t.place.toList, x ≤ t.mask
  at_ : ∀ (i : Nat) (h : Int) (j : Nat), hs[i]? = some h → t.place.toList[i]? = some j → Reach t.mask t.place.toList h j
theorem Tb.ahead {t : SetTable} {hs : List Int} (T : Tb t hs) {h : Int} {K i j : Nat} (hK : way t.mask h K ∉ t.place.toList) (hi : hs[i]? = some h) (hj : t.place.toList[i]? = some j) : ∃ k, k < K ∧ way t.mask h k = j := by
  obtain ⟨k, e, b⟩ := T.at_ i h j hi hj
  rcases Nat.lt_trichotomy k K with c | c | c
  · exact ⟨k, c, e⟩
  · subst c
    rw [e] at hK
    exact absurd (List.mem_of_getElem? hj) hK
  · exact absurd (b K c) hK
theorem below_le {t : SetTable} {hs : List Int} (T : Tb t hs) (j : Nat) : SetTable.below t.place j ≤ hs.length := by
  have h := (below_cut T.up j).1
  have := T.sz
  rw [Array.length_toList] at this
  omega
theorem Tb.put {t : SetTable} {hs : List Int} (T : Tb t hs) {h : Int} {K : Nat} (hK : way t.mask h K ∉ t.place.toList) (hb : ∀ k, k < K → way t.mask h k ∈ t.place.toList) :
    Tb (t.put (way t.mask h K)).1 (hs.take (SetTable.below t.place (way t.mask h K)) ++ h :: hs.drop (SetTable.below t.place (way t.mask h K))) := by
  have jm := way_in t.mask h K
  have me : way t.mask h K = way t.mask h K := rfl
  generalize hj : way t.mask h K = j at hK jm
  have ph := below_le T j
  have pl : SetTable.below t.place j ≤ t.place.toList.length := by rw [T.sz]; exact ph
  have no : t.place[SetTable.below t.place j]? ≠ some j := fun e => hK (List.mem_of_getElem? (by rw [Array.getElem?_toList]; exact e))
  have pp := put_place t j
  have more : ∀ x ∈ t.place.toList, x ∈ (t.put j).1.place.toList := fun x hx => by rw [pp]; exact mem_ins.2 (.inr hx)
  refine ⟨ris_insert T.up no, put_dm T.nd j, by rw [pp, len_ins _ pl, len_ins _ ph, T.sz], T.m2, fun x hx => ?_, fun i g l hi hl => ?_⟩
  · rw [pp] at hx
    rcases mem_ins.1 hx with e | hx
    · rw [e]; exact jm
    · exact T.le x hx
  · rw [tins_get hs ph] at hi
    rw [pp, tins_get _ pl] at hl
    show Reach t.mask (t.put j).1.place.toList g l
    by_cases c : i < SetTable.below t.place j
    · rw [if_pos c] at hi hl
      exact (T.at_ i g l hi hl).mono more
    · rw [if_neg c] at hi hl
      by_cases d : i = SetTable.below t.place j
      · rw [if_pos d] at hi hl
        cases hi
        cases hl
        exact ⟨K, hj, fun k hk => more _ (hb k hk)⟩
      · rw [if_neg d] at hi hl
        exact (T.at_ (i - 1) g l hi hl).mono more
theorem Tb.fill {t : SetTable} {hs : List Int} (T : Tb t hs) : t.fill = hs.length := by
  unfold SetTable.fill
  rw [T.nd, ← Array.length_toList, T.sz]
  rfl
theorem Tb.fits {t : SetTable} {hs : List Int} (T : Tb t hs) (h : hs.length ≤ t.mask) : t.fits hs.length = true := by
  unfold SetTable.fits
  rw [T.fill, ← Array.length_toList, T.sz]
  simp [h]
theorem find_free {m : Nat} (hm : M2 m) (owner : Array (Option Nat)) (h : Int) {j : Nat} (hj : j ≤ m) (hf : oAt owner j = none) :
    ∃ K, SetTable.layClean.free m owner (SetTable.turns m) (SetTable.bits h % (m + 1)) (SetTable.bits h) = some (way m h K) ∧ oAt owner (way m h K) = none ∧ ∀ k, k < K → oAt owner (way m h k) ≠ none := by
  obtain ⟨n, hn, e⟩ := lcg_meets hm (runI_le m (SetTable.bits h) 12) hj
  have hw : way m h (off m (SetTable.bits h % (m + 1)) (SetTable.bits h) (12 + n)) = j := by
    show (nth m (runAt m (SetTable.bits h % (m + 1)) (SetTable.bits h)) _).j = j
    rw [nth_off, itL_run]
    show runI m (SetTable.bits h) (12 + n) = j
    rw [runI_tail (bits_lt h)]
    exact e
  obtain ⟨K, a, b, c⟩ := st_least (p := fun k => oAt owner (way m h k) = none) _ (show oAt owner (way m h (off m (SetTable.bits h % (m + 1)) (SetTable.bits h) (12 + n))) = none by rw [hw]; exact hf)
  refine ⟨K, free_spec m owner (SetTable.turns m) (12 + n) _ _ K (by unfold SetTable.turns; omega) a (fun k hk => ?_) ?_, b, c⟩
  · have := c k hk
    cases z : oAt owner (nth m (runAt m (SetTable.bits h % (m + 1)) (SetTable.bits h)) k).j with
    | none => exact absurd z this
    | some _ => rfl
  · have : oAt owner (nth m (runAt m (SetTable.bits h % (m + 1)) (SetTable.bits h)) K).j = none := b
    rw [this]; rfl
structure Seats (m : Nat) (done : List Int) (owner : Array (Option Nat)) : Prop where
  sz : owner.size = m + 1
  at_ : ∀ j k, j ≤ m → oAt owner j = some k → ∃ h K, done[k]? = some h ∧ way m h K = j ∧ ∀ k', k' < K → oAt owner (way m h k') ≠ none
  ps : ∃ ps : List Nat, ps.length = done.length ∧ ps.Nodup ∧ (∀ j, j ≤ m → (oAt owner j ≠ none ↔ j ∈ ps)) ∧ (∀ j ∈ ps, j ≤ m) ∧ ∀ i j, ps[i]? = some j → oAt owner j = some i
theorem seats_none (m : Nat) : Seats m [] (Array.replicate (m + 1) none) :=
  ⟨by simp, fun j k hj e => (by rw [oAt_init hj] at e; cases e), [], rfl, List.nodup_nil, fun j hj => ⟨fun e => absurd (oAt_init hj) e, fun z => (by cases z)⟩, fun j z => (by cases z), fun i j z => (by simp at z)⟩
theorem Seats.more {m : Nat} (hm : M2 m) {done : List Int} {owner : Array (Option Nat)} (W : Seats m done owner) (hl : done.length ≤ m) (h : Int) :
    ∃ j, SetTable.layClean.free m owner (SetTable.turns m) (SetTable.bits h % (m + 1)) (SetTable.bits h) = some j ∧ Seats m (done ++ [h]) (owner.setIfInBounds j (some done.length)) := by
  obtain ⟨ps, pl, pn, pm, pb, pi⟩ := W.ps
  obtain ⟨j0, a0, b0⟩ := st_missing ps (m + 1) (by omega)
  have f0 : oAt owner j0 = none := Classical.byContradiction fun z => b0 ((pm j0 (by omega)).mp z)
  obtain ⟨K, e1, e2, e3⟩ := find_free hm owner h (show j0 ≤ m by omega) f0
  have jm := way_in m h K
  generalize hj : way m h K = j at e1 e2 jm
  have js : j < owner.size := by rw [W.sz]; omega
  have new := oAt_set_self (some done.length) js
  have old : ∀ i, i ≠ j → oAt (owner.setIfInBounds j (some done.length)) i = oAt owner i := fun i n => oAt_set_ne _ n
  have jp : j ∉ ps := fun z => (pm j jm).mpr z e2
  have grow : ∀ i, oAt owner i ≠ none → oAt (owner.setIfInBounds j (some done.length)) i ≠ none := fun i hi => by
    by_cases c : i = j
    · rw [c, new]; exact fun z => nomatch z
    · rw [old i c]; exact hi
  refine ⟨j, e1, by rw [Array.size_setIfInBounds]; exact W.sz, fun i k hi e => ?_, ps ++ [j], by rw [List.length_append, List.length_append, pl]; rfl, ?_, fun i hi => ?_, fun i hi => ?_, fun i l hl' => ?_⟩
  · by_cases c : i = j
    · subst c
      rw [new] at e
      cases e
      exact ⟨h, K, by rw [List.getElem?_append_right (Nat.le_refl _), Nat.sub_self]; rfl, hj, fun k' hk' => grow _ (e3 k' hk')⟩
    · rw [old i c] at e
      obtain ⟨g, K', b1, b2, b3⟩ := W.at_ i k hi e
      exact ⟨g, K', by rw [List.getElem?_append_left (List.getElem?_eq_some_iff.mp b1).1]; exact b1, b2, fun k' hk' => grow _ (b3 k' hk')⟩
  · refine List.nodup_append.mpr ⟨pn, by simp, fun a ha b hb => ?_⟩
    rw [List.mem_singleton.mp hb]
    exact fun z => jp (z ▸ ha)
  · rw [List.mem_append, List.mem_singleton]
    by_cases c : i = j
    · subst c
      exact ⟨fun _ => .inr rfl, fun _ => by rw [new]; exact fun z => nomatch z⟩
    · rw [old i c, pm i hi]
      exact ⟨.inl, fun z => z.resolve_right c⟩
  · rcases List.mem_append.mp hi with z | z
    · exact pb i z
    · rw [List.mem_singleton.mp z]; exact jm
  · by_cases c : i < ps.length
    · rw [List.getElem?_append_left c] at hl'
      have hne : l ≠ j := fun z => jp (z ▸ List.mem_of_getElem? hl')
      rw [old l hne]
      exact pi i l hl'
    · rw [List.getElem?_append_right (by omega)] at hl'
      have hi0 : i - ps.length = 0 := by
        have := (List.getElem?_eq_some_iff.mp hl').1
        simp at this
        omega
      rw [hi0] at hl'
      cases hl'
      have : i = done.length := by omega
      rw [this]; exact new
theorem seats_fold {m : Nat} (hm : M2 m) : ∀ (rest done : List Int) (owner : Array (Option Nat)), Seats m done owner → done.length + rest.length ≤ m + 1 →
    ∃ owner' n, rest.foldl (stepF m) (some (owner, done.length)) = some (owner', n) ∧ Seats m (done ++ rest) owner'
  | [], done, owner, W, _ => ⟨owner, _, rfl, by rw [List.append_nil]; exact W⟩
  | h :: rest, done, owner, W, hl => by
    rw [List.length_cons] at hl
    obtain ⟨j, e, W1⟩ := W.more hm (by omega) h
    have hd : (done ++ [h]).length = done.length + 1 := by rw [List.length_append]; rfl
    obtain ⟨o2, n, f, W2⟩ := seats_fold hm rest (done ++ [h]) _ W1 (by omega)
    rw [hd] at f
    refine ⟨o2, n, ?_, by rw [List.append_assoc] at W2; exact W2⟩
    rw [List.foldl_cons, stepF_some e]
    exact f
theorem relaid_tb (t : SetTable) {hs : Array Int} {wanted M : Nat} (hw : SetTable.sizeAbove wanted - 1 = M) (hM : M2 M) (hn : hs.size ≤ M) :
    ∃ t' order, t.relaid hs wanted = some (t', order) ∧ order.toList.Perm (List.range hs.size) ∧ Tb t' (order.toList.map fun i => hs.getD i 0) ∧ t'.mask = M ∧ t'.led = t.led ∧ t'.plain = t.plain := by
  obtain ⟨owner, n, f, W⟩ := seats_fold hM hs.toList [] _ (seats_none M) (by rw [Array.length_toList]; show 0 + hs.size ≤ M + 1; omega)
  rw [List.nil_append] at W
  obtain ⟨ps, pl, pn, pm, pb, pi⟩ := W.ps
  have pl2 : ps.length = hs.size := pl.trans Array.length_toList
  have e0 : SetTable.layClean M hs = some owner := by
    rw [layClean_eq]
    have : hs.toList.foldl (stepF M) (some (Array.replicate (M + 1) none, 0)) = some (owner, n) := f
    rw [this]; rfl
  have rz := ris_live (fun j => owner.getD j none) (List.range (M + 1)) (by
    unfold Ris
    first | exact List.pairwise_lt_range | exact List.pairwise_lt_range _)
  have r1 : Ris ((liveOf M owner).map (·.1)) := rz.1
  have r2 : ∀ x ∈ (liveOf M owner).map (·.1), x ∈ List.range (M + 1) := rz.2
  have ml : ∀ {j k : Nat}, (j, k) ∈ liveOf M owner ↔ j ≤ M ∧ oAt owner j = some k := mem_live W.sz
  have n1 : ((liveOf M owner).map (·.1)).Nodup := r1.imp fun h => Nat.ne_of_lt h
  have p1 : ((liveOf M owner).map (·.1)).Perm ps := (List.perm_ext_iff_of_nodup n1 pn).mpr fun j => by
    constructor
    · intro hj
      obtain ⟨⟨y, k⟩, hq, e⟩ := List.mem_map.mp hj
      have e' : y = j := e
      subst e'
      obtain ⟨b1, b2⟩ := ml.mp hq
      exact (pm y b1).mp (by rw [b2]; exact fun z => nomatch z)
    · intro hj
      have hjm := pb j hj
      have := (pm j hjm).mpr hj
      cases z : oAt owner j with
      | none => exact absurd z this
      | some k => exact List.mem_map.mpr ⟨(j, k), ml.mpr ⟨hjm, z⟩, rfl⟩
  have len : (liveOf M owner).length = hs.size := by
    have := p1.length_eq
    rw [List.length_map] at this
    omega
  refine ⟨tabOf t M owner, ((liveOf M owner).map (·.2)).toArray, by rw [relaid_eq, hw, e0]; rfl, ?_, ⟨r1, rfl, ?_, hM, fun x hx => ?_, fun i h j hi hj => ?_⟩, rfl, rfl, rfl⟩
  · refine perm_range hs.size _ (by show ((liveOf M owner).map (·.2)).length = _; rw [List.length_map, len]) fun k hk => ?_
    have hk' : k < ps.length := by omega
    have e := pi k ps[k] (List.getElem?_eq_getElem hk')
    exact List.mem_map.mpr ⟨(ps[k], k), ml.mpr ⟨pb _ (List.getElem_mem hk'), e⟩, rfl⟩
  · show ((liveOf M owner).map (·.1)).length = (((liveOf M owner).map (·.2)).map _).length
    rw [List.length_map, List.length_map, List.length_map]
  · exact Nat.le_of_lt_succ (List.mem_range.mp (r2 x hx))
  · have hi' : (((liveOf M owner).map (·.2)).map fun i => hs.getD i 0)[i]? = some h := hi
    have hj' : ((liveOf M owner).map (·.1))[i]? = some j := hj
    rw [List.getElem?_map, List.getElem?_map] at hi'
    rw [List.getElem?_map] at hj'
    cases hq : (liveOf M owner)[i]? with
    | none => rw [hq] at hj'; cases hj'
    | some q =>
      obtain ⟨y, k⟩ := q
      rw [hq] at hi' hj'
      have ey : y = j := Option.some.inj hj'
      have eh : hs.getD k 0 = h := Option.some.inj hi'
      subst ey
      obtain ⟨b1, b2⟩ := ml.mp (List.mem_of_getElem? hq)
      obtain ⟨g, K, a1, a2, a3⟩ := W.at_ y k b1 b2
      have eg : hs.getD k 0 = g := by
        rw [Array.getElem?_toList] at a1
        rw [Array.getD_eq_getD_getElem?, a1]; rfl
      rw [eg] at eh
      subst eh
      refine ⟨K, a2, fun k' hk' => ?_⟩
      show way M g k' ∈ (liveOf M owner).map (·.1)
      cases z : oAt owner (way M g k') with
      | none => exact absurd z (a3 k' hk')
      | some k2 => exact List.mem_map.mpr ⟨(way M g k', k2), ml.mpr ⟨way_in M g k', z⟩, rfl⟩
end BS
namespace BS
open PySem PySem.Spec PyProof.Rows L2
def Mk (m : Nat) : Prop := m = 7 ∨ m = 31 ∨ m = 127 ∨ m = 511 ∨ m = 2047 ∨ m = 8191
theorem Mk.m2 {m : Nat} (h : Mk m) : M2 m := by
  rcases h with e | e | e | e | e | e <;> subst e
  · exact ⟨3, rfl⟩
  · exact ⟨5, rfl⟩
  · exact ⟨7, rfl⟩
  · exact ⟨9, rfl⟩
  · exact ⟨11, rfl⟩
  · exact ⟨13, rfl⟩
theorem Mk.odd {m : Nat} (h : Mk m) : m % 2 = 1 := by rcases h with e | e | e | e | e | e <;> subst e <;> rfl
theorem Mk.le {m : Nat} (h : Mk m) : m ≤ 8191 := by rcases h with e | e | e | e | e | e <;> subst e <;> decide
structure SetB (P : Program) (w : World) (h : Heap) (a : Addr) (L : List (Addr × List Int)) (es : Array (Int × Value)) (ep : Nat) (t : SetTable) : Prop where
  ob : ∃ o, h.get? a = some o ∧ o.ExactSet ∧ o.data = .set es ep t
  rows : es.toList = rowsOf P w L
  tab : Tb t (L.map fun p => thash P w p.2)
  nd : (L.map (·.2)).Nodup
  tup : ∀ p ∈ L, IsT P w h p.2 p.1
  plain : t.plain = true
  led : w.params.followText "set-order" = true ∨ t.led = true
  room : L.length * 5 < t.mask * 3
  okM : Mk t.mask
  few : L.length < 4096
abbrev stand (m : Nat) (h : Int) (c : Nat) : SetTable.Probe := nth m (runAt m (SetTable.bits h % (m + 1)) (SetTable.bits h)) c
theorem stand_more (m : Nat) (h : Int) (c q : Nat) : nth m (stand m h c) q = stand m h (c + q) := (nth_add m c _ q).symm
theorem stand_plain (m : Nat) (h : Int) (c : Nat) : (stand m h c).dummy = none := by
  have go : ∀ (n : Nat) (p : SetTable.Probe), p.dummy = none → (nth m p n).dummy = none := by
    intro n
    induction n with
    | zero => exact fun p h => h
    | succ n ih => exact fun p h => ih (adv m p) (by unfold adv; split <;> exact h)
  exact go c _ rfl
section
variable {P : Program} {w : World} {A : Around} {E : Value → Shared → Prop} {s : Shared} {a : Addr} {L : List (Addr × List Int)} {es : Array (Int × Value)} {ep : Nat} {t : SetTable}
theorem SetB.size (R : SetB P w s.heap a L es ep t) : es.size = L.length := by
  have h := congrArg List.length R.rows
  unfold rowsOf at h
  rw [Array.length_toList, List.length_map] at h
  exact h
theorem SetB.fits (R : SetB P w s.heap a L es ep t) : t.fits es.size = true := by
  have h := R.tab.fits (by rw [List.length_map]; have := R.room; omega)
  rw [List.length_map] at h
  rw [R.size]; exact h
theorem SetB.entry (R : SetB P w s.heap a L es ep t) {i : Nat} {p : Addr × List Int} (h : L[i]? = some p) : es[i]? = some (thash P w p.2, Value.ref p.1) := by
  rw [← Array.getElem?_toList, R.rows]
  unfold rowsOf
  rw [List.getElem?_map, h]; rfl
theorem SetB.gw (R : SetB P w s.heap a L es ep t) : ¬ t.gaveWay = true := by
  unfold SetTable.gaveWay
  rw [R.okM.odd]
  decide
theorem SetB.live (R : SetB P w s.heap a L es ep t) {i j : Nat} (h : t.place.toList[i]? = some j) : ∃ p, L[i]? = some p := by
  have h1 := (List.getElem?_eq_some_iff.mp h).1
  rw [R.tab.sz, List.length_map] at h1
  exact ⟨_, List.getElem?_eq_getElem h1⟩
theorem seek (R : SetB P w s.heap a L es ep t) {x : Addr} {k : List Int} (hx : IsT P w s.heap k x) (hu : A.units < cLine) {K : Nat} (Kf : K < 10 * SetTable.turns t.mask)
    (free : way t.mask (thash P w k) K ∉ t.place.toList) (took : ∀ c, c < K → way t.mask (thash P w k) c ∈ t.place.toList) {Q : SetFound → Shared → Prop}
    (yes : k ∈ L.map (·.2) → Q (.there none) s) (no : k ∉ L.map (·.2) → Q (.free (way t.mask (thash P w k) K) false) s) :
    ∀ (f c : Nat) (st : Option SetTable.Probe), st.getD (t.probeStart (thash P w k)) = stand t.mask (thash P w k) c → c ≤ K → K - c < f →
      (∀ (i : Nat) p, L[i]? = some p → p.2 = k → ∃ d, c ≤ d ∧ d < K ∧ t.place.toList[i]? = some (way t.mask (thash P w k) d)) →
      wpAny (model P w) A (setSearchFrom a (.ref x) (thash P w k) true f st) Q E s := by
  intro f
  induction f with
  | zero => intro c st _ _ hf; exact absurd hf (Nat.not_lt_zero _)
  | succ f ih =>
    intro c st hst hc hf here
    obtain ⟨o, ho, hex, hd⟩ := R.ob
    have sj : ∀ q, (nth t.mask (stand t.mask (thash P w k) c) q).j = way t.mask (thash P w k) (c + q) := fun q => congrArg SetTable.Probe.j (stand_more _ _ c q)
    have hK : c + (K - c) = K := by omega
    have hash : ∀ (i : Nat) p, L[i]? = some p → (es[i]?.map (·.1)).getD 0 = thash P w p.2 := fun i p hp => by rw [R.entry hp]; rfl
    rw [setSearchFrom_succ]
    refine wpAny_bind (wpAny_setState_of ho hd R.fits ?_)
    dsimp only
    refine wp_if_neg R.gw ?_
    try refine wpAny_bind (wpAny_pure ?_)
    rcases go_spec t R.tab.up R.tab.nd (fun i => (es[i]?.map (·.1)).getD 0) (thash P w k) (10 * SetTable.turns t.mask) (K - c) (stand t.mask (thash P w k) c) (stand_plain _ _ c) (by omega)
      (fun q hq => by rw [sj]; exact took _ (by omega)) (by rw [sj, hK]; exact free) with ⟨q, i, hq, hi, hh, ahead, met⟩ | ⟨ahead, met⟩
    · rw [sj] at hi
      have met' : t.probe (fun i => (es[i]?.map (·.1)).getD 0) (thash P w k) (st.getD (t.probeStart (thash P w k))) = some (.candidate (way t.mask (thash P w k) (c + q)) i (stand t.mask (thash P w k) (c + (q + 1)))) := by
        rw [hst, ← sj, ← stand_more]
        exact met
      rw [met']
      dsimp only
      obtain ⟨p, hp⟩ := R.live hi
      have pL : p ∈ L := List.mem_of_getElem? hp
      have sl : t.slot (way t.mask (thash P w k) (c + q)) = .live i := slot_live R.tab.up hi
      have go : wpAny (model P w) A (searchRest a (.ref x) (thash P w k) true f es t (way t.mask (thash P w k) (c + q)) i (stand t.mask (thash P w k) (c + (q + 1)))) Q E s := by
        unfold searchRest
        rw [R.entry hp]
        dsimp only
        refine wpAny_bind (wpAny_holding (wpAny_eqBool_tuple hu (R.tup p pL) hx ?_))
        refine wpAny_bind (wpAny_setState_of ho hd R.fits ?_)
        dsimp only
        by_cases same : p.2 = k
        · refine wp_if_pos (by simp [same]) (wpAny_pure (yes (List.mem_map.mpr ⟨p, pL, same⟩)))
        · refine wp_if_neg (by simp [same]) ?_
          try refine wpAny_bind (wpAny_pure ?_)
          rw [sameMem]
          dsimp only
          simp only [if_true, sl, R.entry hp]
          refine wpAny_bind (wpAny_isSame_ref_self (wpAny_bind (wpAny_pure ?_)))
          simp only [if_true]
          refine wp_if_neg (by simp [same]) ?_
          refine ih (c + (q + 1)) _ rfl (by omega) (by omega) fun i0 p0 h0 k0 => ?_
          obtain ⟨d, d1, d2, d3⟩ := here i0 p0 h0 k0
          refine ⟨d, ?_, d2, d3⟩
          rcases Nat.lt_trichotomy d (c + q) with z | z | z
          · have e : c + (d - c) = d := by omega
            exact absurd ((hash i0 p0 h0).trans (congrArg (thash P w) k0)) (ahead (d - c) i0 (by omega) (by rw [sj, e]; exact d3))
          · subst z
            have s0 := slot_live R.tab.up d3
            rw [sl] at s0
            injection s0 with s0
            rw [← s0, hp] at h0
            exact absurd ((congrArg Prod.snd (Option.some.inj h0)).trans k0) same
          · omega
      by_cases l : t.led = true
      · refine wp_if_neg (by simp [l]) ?_
        try refine wpAny_bind (wpAny_pure ?_)
        exact go
      · refine wp_if_pos (by simp [l]) (wpAny_bind (seen_tup hx (fun y hy => ?_) ?_))
        · obtain ⟨e, he, rfl⟩ := List.mem_map.mp hy
          have he2 : e ∈ es.toList := by
            have : e ∈ es ∧ e.1 = thash P w k := by simpa using he
            simpa using this.1
          rw [R.rows] at he2
          obtain ⟨r, hr, rfl⟩ := List.mem_map.mp he2
          exact ⟨r.2, r.1, rfl, R.tup r hr⟩
        · refine wp_if_neg (by decide) ?_
          try refine wpAny_bind (wpAny_pure ?_)
          exact go
    · have met' : t.probe (fun i => (es[i]?.map (·.1)).getD 0) (thash P w k) (st.getD (t.probeStart (thash P w k))) = some (.empty (way t.mask (thash P w k) K) none) := by
        rw [hst]
        have e := sj (K - c)
        rw [hK] at e
        rw [← e]
        exact met
      rw [met']
      dsimp only
      refine wpAny_pure (no fun hm => ?_)
      obtain ⟨p0, h0, k0⟩ := List.mem_map.mp hm
      obtain ⟨i0, l0, e0⟩ := List.getElem_of_mem h0
      have g0 : L[i0]? = some p0 := by rw [List.getElem?_eq_getElem l0, e0]
      obtain ⟨d, d1, d2, d3⟩ := here i0 p0 g0 k0
      have e : c + (d - c) = d := by omega
      exact absurd ((hash i0 p0 g0).trans (congrArg (thash P w) k0)) (ahead (d - c) i0 (by omega) (by rw [sj, e]; exact d3))
theorem look_up (R : SetB P w s.heap a L es ep t) {x : Addr} {k : List Int} (hx : IsT P w s.heap k x) (hu : A.units < cLine) {Q : SetFound → Shared → Prop}
    (yes : k ∈ L.map (·.2) → Q (.there none) s)
    (no : ∀ K, k ∉ L.map (·.2) → way t.mask (thash P w k) K ∉ t.place.toList → (∀ c, c < K → way t.mask (thash P w k) c ∈ t.place.toList) → Q (.free (way t.mask (thash P w k) K) false) s) :
    wpAny (model P w) A (setSearch a (.ref x) (thash P w k) true) Q E s := by
  have rm := R.room
  have ml := R.okM.le
  have pl := R.tab.sz
  rw [List.length_map] at pl
  obtain ⟨K, Kf, free, took⟩ := free_slot R.okM.m2 t.place.toList (by omega) (thash P w k)
  have Kb : K < 100000 := by
    unfold SetTable.turns at Kf
    omega
  unfold setSearch
  refine seek R hx hu Kf free took yes (fun z => no K z free took) 100000 0 none rfl (Nat.zero_le _) (by omega) fun i p hp hk => ?_
  have hi : (L.map fun p => thash P w p.2)[i]? = some (thash P w k) := by rw [List.getElem?_map, hp, ← hk]; rfl
  have il : i < t.place.toList.length := by
    have := (List.getElem?_eq_some_iff.mp hp).1
    omega
  have hj := List.getElem?_eq_getElem il
  obtain ⟨c, hc, e⟩ := R.tab.ahead free hi hj
  exact ⟨c, Nat.zero_le _, hc, by rw [hj, e]⟩
end
end BS
namespace BS
open PySem PySem.Spec PyProof.Rows L2
theorem grown_sizes : SetTable.sizeAbove (SetTable.grown 5) = 32 ∧ SetTable.sizeAbove (SetTable.grown 19) = 128 ∧ SetTable.sizeAbove (SetTable.grown 77) = 512 ∧ SetTable.sizeAbove (SetTable.grown 307) = 2048 ∧ SetTable.sizeAbove (SetTable.grown 1229) = 8192 := by
  refine ⟨?_, ?_, ?_, ?_, ?_⟩ <;> decide +kernel
section
variable {P : Program} {w : World} {A : Around} {E : Value → Shared → Prop} {s : Shared} {a : Addr} {L : List (Addr × List Int)} {es : Array (Int × Value)} {ep : Nat} {t : SetTable}
theorem relay_b {o : Obj} (ho : s.heap.get? a = some o) (hex : o.ExactSet) (hd : o.data = .set es ep t) (rows : es.toList = rowsOf P w L) (T : Tb t (L.map fun p => thash P w p.2)) (fit : L.length ≤ t.mask) (nd : (L.map (·.2)).Nodup) (tup : ∀ p ∈ L, IsT P w s.heap p.2 p.1)
    (pl : t.plain = true) (ld : w.params.followText "set-order" = true ∨ t.led = true) (few : L.length < 4096) {wanted M : Nat} (hw : SetTable.sizeAbove wanted - 1 = M) (hM : Mk M) (hw2 : SetTable.sizeAbove wanted ≤ 8192) (room : L.length * 5 < M * 3) {Q : Unit → Shared → Prop}
    (q : ∀ h' L' es' ep' t', Heap.SameBut a s.heap h' → SetB P w h' a L' es' ep' t' → L'.Perm L → Q () { s with heap := h' }) : wpAny (model P w) A (setRelay a wanted) Q E s := by
  have sz : es.size = L.length := by
    have h := congrArg List.length rows
    unfold rowsOf at h
    rw [Array.length_toList, List.length_map] at h
    exact h
  have fits : t.fits es.size = true := by
    have h := T.fits (by rw [List.length_map]; exact fit)
    rw [List.length_map] at h
    rw [sz]; exact h
  obtain ⟨t', order, e, perm, T', em, el, ep'⟩ := relaid_tb t (hs := es.map (·.1)) (wanted := wanted) hw hM.m2 (by rw [Array.size_map, sz]; omega)
  rw [Array.size_map, sz] at perm
  obtain ⟨L2, r1, r2, r3⟩ := order_rows L es order rows perm
  rw [← r3] at T'
  have sz2 : (order.filterMap (es[·]?)).size = es.size := by
    have h := congrArg List.length r1
    unfold rowsOf at h
    rw [Array.length_toList, List.length_map, r2.length_eq] at h
    rw [h, sz]
  rw [setRelay_eq]
  refine wpAny_bind (wpAny_setState_of ho hd fits ?_)
  dsimp only
  refine wp_if_neg (by rw [sizeLine_eq]; omega) ?_
  try refine wpAny_bind (wpAny_pure ?_)
  rw [e]
  dsimp only
  refine wpAny_bind ?_
  refine wp_if_neg (by rw [sz2]; simp) ?_
  try refine wpAny_bind (wpAny_pure ?_)
  refine wpAny_pure ?_
  dsimp only
  refine wpAny_storeSet_of ho hd ?_ (by rw [sz2, sz, sizeLine_eq]; omega)
  have sb : Heap.SameBut a s.heap (s.heap.update a (Obj.putSet (order.filterMap (es[·]?)) t')) := Heap.SameBut.update ..
  exact q _ L2 _ (ep + 1) t' sb ⟨⟨_, store_at ho hd, ⟨hex.1, hex.2.1, hex.2.2⟩, rfl⟩, r1, T', (r2.map (·.2)).nodup_iff.mpr nd, fun p hp => isT_same (tup p (r2.mem_iff.mp hp)) ho hd sb, by rw [ep']; exact pl, by rw [el]; exact ld, by rw [r2.length_eq, em]; exact room, by rw [em]; exact hM, by rw [r2.length_eq]; exact few⟩ r2
theorem add_b (R : SetB P w s.heap a L es ep t) {x : Addr} {k : List Int} (hx : IsT P w s.heap k x) (hu : A.units < cLine) (few : L.length + 1 < 4096) {Q : Bool → Shared → Prop}
    (q : ∀ b h' L' es' ep' t', Heap.SameBut a s.heap h' → SetB P w h' a L' es' ep' t' → (k ∈ L.map (·.2) → L' = L) → (k ∉ L.map (·.2) → L'.Perm ((x, k) :: L)) → Q b { s with heap := h' }) :
    wpAny (model P w) A (setAddHashed a (.ref x) (thash P w k)) Q E s := by
  obtain ⟨o, ho, hex, hd⟩ := R.ob
  have rm := R.room
  unfold setAddHashed
  refine wpAny_holding ?_
  rw [show (100000 : Nat) = 99999 + 1 from rfl, setAddHashedIn_succ]
  refine wpAny_bind (wpAny_setState_of ho hd R.fits ?_)
  dsimp only
  refine wp_if_neg (by simp [byScan, Value.scannable]) ?_
  try refine wpAny_bind (wpAny_pure ?_)
  refine wpAny_bind (look_up R hx hu (fun hm => ?_) fun K hm free took => ?_)
  · dsimp only
    exact wpAny_pure (q false s.heap L es ep t (Heap.SameBut.refl a s.heap) R (fun _ => rfl) fun z => absurd hm z)
  · dsimp only
    refine wpAny_bind (wpAny_setState_of ho hd R.fits ?_)
    dsimp only
    have T1 := R.tab.put free took
    have hp2 : (t.put (way t.mask (thash P w k) K)).2 = SetTable.below t.place (way t.mask (thash P w k) K) := rfl
    have m1 : (t.put (way t.mask (thash P w k) K)).1.mask = t.mask := rfl
    have l1 : (t.put (way t.mask (thash P w k) K)).1.led = t.led := rfl
    have p1 : (t.put (way t.mask (thash P w k) K)).1.plain = true := R.plain
    have bl := below_le R.tab (way t.mask (thash P w k) K)
    rw [List.length_map] at bl
    generalize SetTable.below t.place (way t.mask (thash P w k) K) = p at T1 hp2 bl
    generalize hpt : t.put (way t.mask (thash P w k) K) = pt at T1 hp2 m1 l1 p1 ⊢
    obtain ⟨t1, p'⟩ := pt
    dsimp only at T1 hp2 m1 l1 p1 ⊢
    subst hp2
    first
      | (refine wpAny_bind ?_; refine wp_if_pos p1 ?_; refine hashBy_tup hx ?_)
      | refine wp_if_pos p1 (wpAny_bind (hashBy_tup hx ?_))
    simp only [if_true]
    have rows : (SetTable.insertAt es p' (thash P w k, Value.ref x)).toList = rowsOf P w (L.take p' ++ (x, k) :: L.drop p') := by rw [SetTable.toList_insertAt, rows_put, R.rows]
    have pm := put_perm L p' (x, k)
    have hs : (L.take p' ++ (x, k) :: L.drop p').map (fun p => thash P w p.2) = (L.map fun p => thash P w p.2).take p' ++ thash P w k :: (L.map fun p => thash P w p.2).drop p' := by
      rw [List.map_append, List.map_cons, List.map_take, List.map_drop]
    rw [← hs] at T1
    generalize L.take p' ++ (x, k) :: L.drop p' = L1 at *
    have len : L1.length = L.length + 1 := pm.length_eq
    have sz : (SetTable.insertAt es p' (thash P w k, Value.ref x)).size = L.length + 1 := by
      have h := congrArg List.length rows
      unfold rowsOf at h
      rw [Array.length_toList, List.length_map, len] at h
      exact h
    generalize SetTable.insertAt es p' (thash P w k, Value.ref x) = es1 at *
    have nd1 : (L1.map (·.2)).Nodup := (pm.map (·.2)).nodup_iff.mpr (by rw [List.map_cons]; exact List.nodup_cons.mpr ⟨hm, R.nd⟩)
    refine wpAny_bind (wpAny_storeSet_of ho hd ?_ (by rw [sz, sizeLine_eq]; omega))
    have sb : Heap.SameBut a s.heap (s.heap.update a (Obj.putSet es1 t1)) := Heap.SameBut.update ..
    have ho1 := store_at (es' := es1) (t' := t1) ho hd
    generalize s.heap.update a (Obj.putSet es1 t1) = h1 at sb ho1 ⊢
    have tup1 : ∀ p ∈ L1, IsT P w h1 p.2 p.1 := fun p hp => by
      rcases List.mem_cons.mp (pm.mem_iff.mp hp) with e | hp
      · rw [e]; exact isT_same hx ho hd sb
      · exact isT_same (R.tup p hp) ho hd sb
    have ld1 : w.params.followText "set-order" = true ∨ t1.led = true := by rw [l1]; exact R.led
    have fl := T1.fill
    rw [List.length_map, len] at fl
    have mk := R.okM
    by_cases hf : t1.tooFull = true
    · have full : (L.length + 1) * 5 ≥ t.mask * 3 := by
        have h := hf
        unfold SetTable.tooFull at h
        rw [decide_eq_true_eq, fl, m1] at h
        exact h
      first
        | (refine wpAny_bind ?_; refine wp_if_pos (by simp [hf]) ?_)
        | (refine wp_if_pos (by simp [hf]) ?_; refine wpAny_bind ?_)
      rw [R.size]
      obtain ⟨s5, s19, s77, s307, s1229⟩ := grown_sizes
      have go : ∀ M, SetTable.sizeAbove (SetTable.grown (L.length + 1)) - 1 = M → Mk M → SetTable.sizeAbove (SetTable.grown (L.length + 1)) ≤ 8192 → (L.length + 1) * 5 < M * 3 → L.length + 1 ≤ t.mask →
          wpAny (model P w) A (setRelay a (SetTable.grown (L.length + 1))) (fun _ s' => wpAny (model P w) A (pure true) Q E s') E { s with heap := h1 } := fun M w1 w2 w3 w4 w5 => by
        refine relay_b (s := { s with heap := h1 }) ho1 ⟨hex.1, hex.2.1, hex.2.2⟩ rfl rows T1 (by rw [len, m1]; exact w5) nd1 tup1 p1 ld1 (by rw [len]; exact few) w1 w2 w3 (by rw [len]; exact w4) fun h2 L2 es2 ep2 t2 sb2 R2 pm2 => ?_
        exact wpAny_pure (q true h2 L2 es2 ep2 t2 (sb.trans sb2) R2 (fun z => absurd z hm) fun _ => pm2.trans pm)
      rcases mk with e | e | e | e | e | e <;> rw [e] at rm full
      · have n : L.length + 1 = 5 := by omega
        exact go 31 (by rw [n, s5]) (.inr (.inl rfl)) (by rw [n, s5]; decide) (by omega) (by omega)
      · have n : L.length + 1 = 19 := by omega
        exact go 127 (by rw [n, s19]) (.inr (.inr (.inl rfl))) (by rw [n, s19]; decide) (by omega) (by omega)
      · have n : L.length + 1 = 77 := by omega
        exact go 511 (by rw [n, s77]) (.inr (.inr (.inr (.inl rfl)))) (by rw [n, s77]; decide) (by omega) (by omega)
      · have n : L.length + 1 = 307 := by omega
        exact go 2047 (by rw [n, s307]) (.inr (.inr (.inr (.inr (.inl rfl))))) (by rw [n, s307]; decide) (by omega) (by omega)
      · have n : L.length + 1 = 1229 := by omega
        exact go 8191 (by rw [n, s1229]) (.inr (.inr (.inr (.inr (.inr rfl))))) (by rw [n, s1229]; decide) (by omega) (by omega)
      · omega
    · first
        | refine wp_if_neg (by simp [hf]) ?_
        | (refine wpAny_bind ?_; refine wp_if_neg (by simp [hf]) ?_; refine wpAny_pure ?_)
      refine wpAny_pure (q true h1 L1 es1 (ep + 1) t1 sb ⟨⟨_, ho1, ⟨hex.1, hex.2.1, hex.2.2⟩, rfl⟩, rows, T1, nd1, tup1, p1, ld1, ?_, by rw [m1]; exact mk, by rw [len]; exact few⟩ (fun z => absurd z hm) fun _ => pm)
      have h := hf
      unfold SetTable.tooFull at h
      rw [decide_eq_true_eq, fl] at h
      rw [len]
      omega
theorem SetB.keep {h h' : Heap} (R : SetB P w h a L es ep t) (ha : ∀ o, h.get? a = some o → h'.get? a = some o) (ht : ∀ p ∈ L, IsT P w h' p.2 p.1) : SetB P w h' a L es ep t := by
  obtain ⟨o, ho, r⟩ := R.ob
  exact ⟨⟨o, ha o ho, r⟩, R.rows, R.tab, R.nd, ht, R.plain, R.led, R.room, R.okM, R.few⟩
theorem set_none {h : Heap} (ho : h.get? a = some { cls := .type "set", dict := none, data := .set #[] 0 (.fresh 0 0 (!w.params.followText "set-order")) }) : SetB P w h a [] #[] 0 (.fresh 0 0 (!w.params.followText "set-order")) where
  ob := ⟨_, ho, ⟨rfl, rfl, rfl⟩, rfl⟩
  rows := rfl
  tab := ⟨List.Pairwise.nil, rfl, rfl, ⟨3, rfl⟩, fun x hx => (by cases hx), fun i h j hi => (by simp at hi)⟩
  nd := List.nodup_nil
  tup := fun p hp => (by cases hp)
  plain := rfl
  led := by
    show _ ∨ (!w.params.followText "set-order") = true
    cases w.params.followText "set-order"
    · exact .inr rfl
    · exact .inl rfl
  room := by show 0 * 5 < 7 * 3; decide
  okM := .inl rfl
  few := by show 0 < 4096; decide
end
end BS
namespace BS
open PySem PySem.Spec PyProof.Rows L2
section
variable {P : Program} {w : World} {A : Around} {E : Value → Shared → Prop} {s : Shared}
theorem feed_b {I : Addr} {fp wr : List Addr} {G : Array GenState → Array GenState → Prop} {n : Nat} {Pv : Nat → Value → Prop} {St : Nat → Shared → Prop} {R : Result → Shared → Prop}
    (W : WalksS P w A.in1 I fp wr G n Pv St) (S : Addr) (apart : S ∉ fp) (ks : List (Addr × List Int)) (hn : n = ks.length) (few : ∀ L : List (Addr × List Int), (L.map (·.2)).Nodup → (∀ p ∈ L, p ∈ ks) → L.length + 1 < 4096) (each : ∀ i v, Pv i v → ∃ p, ks[i]? = some p ∧ v = .ref p.1)
    (h0 : Heap) (hk : ∀ p ∈ ks, IsT P w h0 p.2 p.1) (noS : h0.get? S = none) (noW : ∀ b ∈ wr, h0.get? b = none) (hu : A.in1.units < cLine) :
    ∀ (k i : Nat) (s : Shared), n - i = k → i ≤ n → St i s → (∀ b o, h0.get? b = some o → s.heap.get? b = some o) → (∃ L es ep t, SetB P w s.heap S L es ep t ∧ Got ks i L) →
      (∀ s' L es ep t, Moved (S :: wr) G s s' → SetB P w s'.heap S L es ep t → Got ks n L → (∀ b o, h0.get? b = some o → s'.heap.get? b = some o) → R (.ok (.ret .none)) s') →
      codeAny (model P w) A (.builtin "set.update.loop" ⟨[.ref S, .ref I], []⟩) R s := by
  have Sw : S ∉ wr := fun h => apart (W.sub _ h)
  have up : ∀ b ∈ wr, b ∈ S :: wr := fun b hb => List.mem_cons_of_mem _ hb
  intro k
  induction k with
  | zero =>
    intro i s hki hi st old ⟨L, es, ep, t, B, g⟩ fin
    obtain rfl : i = n := by omega
    refine codeAny_builtin F.entry_set_update_loop ?_
    rw [Around.under_plainId F.plain_set_update_loop _]
    show wpAny _ A.in1 (pyNext (.ref I) >>= _) _ _ s
    refine wpAny_bind (W.done s _ _ st fun s' mv => ?_)
    have old' : ∀ b o, h0.get? b = some o → s'.heap.get? b = some o := fun b o e => mv.heap b o (fun hb => by rw [noW b hb] at e; cases e) (old b o e)
    show wpAny _ A.in1 (ret Value.none) _ _ s'
    exact wpAny_pure (fin s' L es ep t (mv.mono up) (B.keep (fun o e => mv.heap S o Sw e) fun p hp => isT_keep (hk p (List.mem_of_mem_take (g.sub p hp))) old') g old')
  | succ k ih =>
    intro i s hki hi st old ⟨L, es, ep, t, B, g⟩ fin
    refine codeAny_builtin F.entry_set_update_loop ?_
    rw [Around.under_plainId F.plain_set_update_loop _]
    show wpAny _ A.in1 (pyNext (.ref I) >>= _) _ _ s
    refine wpAny_bind (W.item i s _ _ (by omega) st fun v s1 pv st1 mv => ?_)
    obtain ⟨p, hp, rfl⟩ := each i v pv
    have old1 : ∀ b o, h0.get? b = some o → s1.heap.get? b = some o := fun b o e => mv.heap b o (fun hb => by rw [noW b hb] at e; cases e) (old b o e)
    have B1 : SetB P w s1.heap S L es ep t := B.keep (fun o e => mv.heap S o Sw e) fun q hq => isT_keep (hk q (List.mem_of_mem_take (g.sub q hq))) old1
    have hx : IsT P w s1.heap p.2 p.1 := isT_keep (hk p (List.mem_of_getElem? hp)) old1
    show wpAny _ A.in1 (holding [Value.ref p.1] (setAdd S (.ref p.1)) >>= _) _ _ s1
    refine wpAny_bind (wpAny_holding ?_)
    unfold setAdd
    refine wpAny_holding (wpAny_bind (wpAny_pyHash_tuple hu hx ?_))
    refine add_b (s := { s1 with toks := s1.toks + (p.2.length + 1) }) B1 hx hu (few L B.nd fun q hq => List.mem_of_mem_take (g.sub q hq)) fun b h2 L2 es2 ep2 t2 sb B2 c1 c2 => ?_
    have g2 : Got ks (i + 1) L2 := by
      by_cases c : p.2 ∈ L.map (·.2)
      · rw [c1 c]; exact g.same hp c
      · exact g.more hp (c2 c)
    have old2 : ∀ b o, h0.get? b = some o → h2.get? b = some o := fun b o e => (sb.2 b (fun z => by rw [z, noS] at e; cases e)).trans (old1 b o e)
    refine wpAny_pure ⟨plainId_quiet F.plain_set_update_loop _, ih (i + 1) _ (by omega) (by omega) (W.frame _ s1 _ _ st1 (Nat.le_add_right _ _) fun b hb o e => ?_) old2 ⟨L2, es2, ep2, t2, B2, g2⟩ fun s3 L3 es3 ep3 t3 mv3 B3 g3 old3 => ?_⟩
    · rw [sb.2 b (fun z : b = S => apart (z ▸ hb))]; exact e
    · refine fin s3 L3 es3 ep3 t3 (Moved.trans W.gtrans ((mv.mono up).then_heap (Nat.le_add_right _ _) fun b o hb e => ?_) mv3) B3 g3 old3
      rw [sb.2 b (fun z : b = S => hb (by rw [z]; exact List.mem_cons_self))]; exact e
abbrev noSet (w : World) : Obj := { cls := .type "set", dict := none, data := .set #[] 0 (.fresh 0 0 (!w.params.followText "set-order")) }
set_option maxHeartbeats 8000000 in
theorem set_of_tup_b {l : Addr} {items : Array Value} (ks : List (Addr × List Int)) {Q : Value → Shared → Prop} (hh : A.handled = none) (hl : s.heap.IsTuple l items) (hit : items.toList = ks.map fun p => Value.ref p.1)
    (hk : ∀ p ∈ ks, IsT P w s.heap p.2 p.1) (few : ∀ L : List (Addr × List Int), (L.map (·.2)).Nodup → (∀ p ∈ L, p ∈ ks) → L.length + 1 < 4096) (room : A.units + 3 < cLine)
    (done : ∀ (h' : Heap) (tk : Nat) L es ep t, SetB P w h' s.heap.objs.size L es ep t → Got ks ks.length L → (∀ b o, s.heap.get? b = some o → h'.get? b = some o) → Q (.ref s.heap.objs.size) { s with heap := h', toks := tk }) :
    wpAny (model P w) A (call (.type "set") [.ref l]) Q E s := by
  have sz : items.size = ks.length := by rw [← Array.length_toList, hit, List.length_map]
  obtain ⟨c, tl, mr⟩ := F.called_set.mro
  have md := F.called_set.made
  have sb := F.called_set.sub
  refine wpAny_call (codeAny_of_tree ?_)
  show wpAny _ _ (callAny (.type "set") _) _ _ _
  refine wpAny_pure ⟨Code.quiet_builtin _ (by decide +kernel), codeAny_builtin F.entry_type_call ?_⟩
  rw [Around.under_plain (weight_type_call_type "set" [.ref l] []) rfl]
  have nT := F.called_set.notType
  have cC := F.called_set.canCreate
  have tC1 := F.typeCall_set_1 (.ref l)
  repeat any_goals first | assumption | wp_step
  have e1 := code_set_led1 (P := P) (w := w) (A := A.in1) (s := s) (.ref l) (E := E) (Q₁ := fun u s1 => u = .ref s.heap.objs.size ∧ s1 = { s with heap := s.heap.push (noSet w) }) ⟨rfl, rfl⟩
  refine codeAny_mono e1 fun r s1 z => ?_
  match r, z with
  | .error e, z => exact z
  | .ok (.ret u), ⟨y1, y2⟩ =>
    subst y1 y2
    have gS : (s.heap.push (noSet w)).get? s.heap.objs.size = some (noSet w) := Heap.get?_push_size _ rfl
    have tS : Shared.TypeIs { s with heap := s.heap.push (noSet w) } (.ref s.heap.objs.size) "set" := ⟨_, gS, rfl⟩
    have lk := F.called_set.init.lookup
    have bd := F.called_set.init.bind (.ref s.heap.objs.size)
    repeat any_goals first | assumption | wp_step
    let Rz : Result → Shared → Prop := wants (fun r s2 => r = .none ∧ ∃ h' tk L es ep t, s2 = { s with heap := h', toks := tk } ∧ SetB P w h' s.heap.objs.size L es ep t ∧ Got ks ks.length L ∧ (∀ b o, s.heap.get? b = some o → h'.get? b = some o)) E
    refine codeAny_mono (codeAny_call_builtin (R := Rz) F.called_set.init.plain F.entry_set_init (check_set_init_1 tS ?walk)) fun r2 s2 z2 => ?back
    case back =>
      match r2, z2 with
      | .error e, z2 => exact z2
      | .ok (.ret r), ⟨y, h', tk, L, es, ep, t, y2, a1, a2, a3⟩ =>
        subst y y2
        repeat any_goals first | assumption | wp_step
        exact done _ _ _ _ _ _ a1 a2 a3
    case walk =>
      have hl0 := hl
      obtain ⟨ol, hol, hcl, nl, hdl⟩ := hl
      have lt := Heap.lt_size hol
      obtain ⟨ocls, odict, odata, oslots⟩ := ol
      simp only at hcl hdl
      subst hcl; subst hdl
      have gl : (s.heap.push (noSet w)).get? l = some { cls := .type "tuple", dict := odict, data := .seq items nl, slots := oslots } := Heap.get?_push_of_some _ hol
      have sb1 := F.sub_tuple_set
      have sb2 := F.sub_tuple_frozenset
      have nd : (Value.type "tuple" == Value.type "dict") = false := by decide
      have hl1 : (s.heap.push (noSet w)).IsTuple l items := hl0.push _
      unfold Builtin.«set.__init__» noKeywords Builtin.Frozenset.updateFrom
      generalize hp : pyIter = PI
      wp_walk
      subst hp
      refine wpAny_pyIter_tuple hl1 (wpAny_bind (wpAny_runValue ?_))
      have hz1 : (s.heap.push (noSet w)).objs.size = s.heap.objs.size + 1 := Heap.size_push ..
      have gone : ∀ b, s.heap.objs.size ≤ b → s.heap.get? b = none := fun b hb => by
        match q : s.heap.get? b with
        | none => rfl
        | some o => exact absurd (Heap.lt_size q) (Nat.not_lt.mpr hb)
      have ne1 : l ≠ (s.heap.push (noSet w)).objs.size := by rw [hz1]; exact Nat.ne_of_lt (Nat.lt_succ_of_lt lt)
      have ne2 : s.heap.objs.size ∉ [(s.heap.push (noSet w)).objs.size, l] := fun z => by
        rcases List.mem_cons.mp z with z | z
        · exact Nat.ne_of_lt (Nat.lt_succ_self _) (z.trans hz1)
        · exact Nat.ne_of_gt lt (List.mem_singleton.mp z)
      have each : ∀ (i : Nat) (v : Value), items[i]? = some v → ∃ p, ks[i]? = some p ∧ v = .ref p.1 := fun i v hv => by
        rw [← Array.getElem?_toList, hit, List.getElem?_map] at hv
        obtain ⟨p, e, z⟩ := Option.map_eq_some_iff.mp hv
        exact ⟨p, e, z.symm⟩
      refine feed_b ((Walks.tuple (A := A.in1.in1.in1) (by simp [hh]) _ l ne1 items).toS) s.heap.objs.size ne2 ks sz few each s.heap hk (gone _ (Nat.le_refl _)) (fun b hb => gone b (by rw [List.mem_singleton.mp hb, hz1]; exact Nat.le_succ _)) room
        (items.size - 0) 0 _ (by omega) (Nat.zero_le _) ⟨⟨_, Heap.get?_push_size _ rfl, rfl, rfl⟩, hl1.push _⟩ (fun b o e => Heap.get?_push_of_some _ (Heap.get?_push_of_some _ e)) ⟨[], #[], 0, _, set_none (Heap.get?_push_of_some _ gS), Got.zero ks⟩ ?_
      intro s3 L es ep t mv R g kp
      rw [sz] at g
      obtain ⟨h3, g3, d3, tk3, o3⟩ := s3
      have x1 : g3 = s.gens := mv.gens
      have x2 : d3 = s.drawn := mv.drawn
      have x3 : o3 = s.os := mv.os
      subst x1 x2 x3
      refine wpAny_pure ?_
      show wpAny _ _ (ret Value.none) _ _ _
      exact wpAny_pure ⟨rfl, h3, tk3, L, es, ep, t, rfl, R, g, kp⟩
set_option maxHeartbeats 8000000 in
theorem set_of_list_b {l : Addr} {items : Array Value} (ks : List (Addr × List Int)) {Q : Value → Shared → Prop} (hh : A.handled = none) (hl : s.heap.IsList l items) (hit : items.toList = ks.map fun p => Value.ref p.1)
    (hk : ∀ p ∈ ks, IsT P w s.heap p.2 p.1) (few : ∀ L : List (Addr × List Int), (L.map (·.2)).Nodup → (∀ p ∈ L, p ∈ ks) → L.length + 1 < 4096) (room : A.units + 3 < cLine)
    (done : ∀ (h' : Heap) (tk : Nat) L es ep t, SetB P w h' s.heap.objs.size L es ep t → Got ks ks.length L → (∀ b o, s.heap.get? b = some o → h'.get? b = some o) → Q (.ref s.heap.objs.size) { s with heap := h', toks := tk }) :
    wpAny (model P w) A (call (.type "set") [.ref l]) Q E s := by
  have sz : items.size = ks.length := by rw [← Array.length_toList, hit, List.length_map]
  obtain ⟨c, tl, mr⟩ := F.called_set.mro
  have md := F.called_set.made
  have sb := F.called_set.sub
  refine wpAny_call (codeAny_of_tree ?_)
  show wpAny _ _ (callAny (.type "set") _) _ _ _
  refine wpAny_pure ⟨Code.quiet_builtin _ (by decide +kernel), codeAny_builtin F.entry_type_call ?_⟩
  rw [Around.under_plain (weight_type_call_type "set" [.ref l] []) rfl]
  have nT := F.called_set.notType
  have cC := F.called_set.canCreate
  have tC1 := F.typeCall_set_1 (.ref l)
  repeat any_goals first | assumption | wp_step
  have e1 := code_set_led1 (P := P) (w := w) (A := A.in1) (s := s) (.ref l) (E := E) (Q₁ := fun u s1 => u = .ref s.heap.objs.size ∧ s1 = { s with heap := s.heap.push (noSet w) }) ⟨rfl, rfl⟩
  refine codeAny_mono e1 fun r s1 z => ?_
  match r, z with
  | .error e, z => exact z
  | .ok (.ret u), ⟨y1, y2⟩ =>
    subst y1 y2
    have gS : (s.heap.push (noSet w)).get? s.heap.objs.size = some (noSet w) := Heap.get?_push_size _ rfl
    have tS : Shared.TypeIs { s with heap := s.heap.push (noSet w) } (.ref s.heap.objs.size) "set" := ⟨_, gS, rfl⟩
    have lk := F.called_set.init.lookup
    have bd := F.called_set.init.bind (.ref s.heap.objs.size)
    repeat any_goals first | assumption | wp_step
    let Rz : Result → Shared → Prop := wants (fun r s2 => r = .none ∧ ∃ h' tk L es ep t, s2 = { s with heap := h', toks := tk } ∧ SetB P w h' s.heap.objs.size L es ep t ∧ Got ks ks.length L ∧ (∀ b o, s.heap.get? b = some o → h'.get? b = some o)) E
    refine codeAny_mono (codeAny_call_builtin (R := Rz) F.called_set.init.plain F.entry_set_init (check_set_init_1 tS ?walk)) fun r2 s2 z2 => ?back
    case back =>
      match r2, z2 with
      | .error e, z2 => exact z2
      | .ok (.ret r), ⟨y, h', tk, L, es, ep, t, y2, a1, a2, a3⟩ =>
        subst y y2
        repeat any_goals first | assumption | wp_step
        exact done _ _ _ _ _ _ a1 a2 a3
    case walk =>
      have hl0 := hl
      obtain ⟨ol, hol, hcl, nl, hdl⟩ := hl
      have lt := Heap.lt_size hol
      obtain ⟨ocls, odict, odata, oslots⟩ := ol
      simp only at hcl hdl
      subst hcl; subst hdl
      have gl : (s.heap.push (noSet w)).get? l = some { cls := .type "list", dict := odict, data := .seq items nl, slots := oslots } := Heap.get?_push_of_some _ hol
      have sb1 := F.sub_list_set
      have sb2 := F.sub_list_frozenset
      have nd : (Value.type "list" == Value.type "dict") = false := by decide
      have hl1 : (s.heap.push (noSet w)).IsList l items := hl0.push _
      unfold Builtin.«set.__init__» noKeywords Builtin.Frozenset.updateFrom
      generalize hp : pyIter = PI
      wp_walk
      subst hp
      refine wpAny_pyIter_list hl1 (wpAny_bind (wpAny_runValue ?_))
      have hz1 : (s.heap.push (noSet w)).objs.size = s.heap.objs.size + 1 := Heap.size_push ..
      have gone : ∀ b, s.heap.objs.size ≤ b → s.heap.get? b = none := fun b hb => by
        match q : s.heap.get? b with
        | none => rfl
        | some o => exact absurd (Heap.lt_size q) (Nat.not_lt.mpr hb)
      have ne1 : l ≠ (s.heap.push (noSet w)).objs.size := by rw [hz1]; exact Nat.ne_of_lt (Nat.lt_succ_of_lt lt)
      have ne2 : s.heap.objs.size ∉ [(s.heap.push (noSet w)).objs.size, l] := fun z => by
        rcases List.mem_cons.mp z with z | z
        · exact Nat.ne_of_lt (Nat.lt_succ_self _) (z.trans hz1)
        · exact Nat.ne_of_gt lt (List.mem_singleton.mp z)
      have each : ∀ (i : Nat) (v : Value), items[i]? = some v → ∃ p, ks[i]? = some p ∧ v = .ref p.1 := fun i v hv => by
        rw [← Array.getElem?_toList, hit, List.getElem?_map] at hv
        obtain ⟨p, e, z⟩ := Option.map_eq_some_iff.mp hv
        exact ⟨p, e, z.symm⟩
      refine feed_b ((Walks.list (A := A.in1.in1.in1) (by simp [hh]) _ l ne1 items).toS) s.heap.objs.size ne2 ks sz few each s.heap hk (gone _ (Nat.le_refl _)) (fun b hb => gone b (by rw [List.mem_singleton.mp hb, hz1]; exact Nat.le_succ _)) room
        (items.size - 0) 0 _ (by omega) (Nat.zero_le _) ⟨⟨_, Heap.get?_push_size _ rfl, rfl, rfl⟩, hl1.push _⟩ (fun b o e => Heap.get?_push_of_some _ (Heap.get?_push_of_some _ e)) ⟨[], #[], 0, _, set_none (Heap.get?_push_of_some _ gS), Got.zero ks⟩ ?_
      intro s3 L es ep t mv R g kp
      rw [sz] at g
      obtain ⟨h3, g3, d3, tk3, o3⟩ := s3
      have x1 : g3 = s.gens := mv.gens
      have x2 : d3 = s.drawn := mv.drawn
      have x3 : o3 = s.os := mv.os
      subst x1 x2 x3
      refine wpAny_pure ?_
      show wpAny _ _ (ret Value.none) _ _ _
      exact wpAny_pure ⟨rfl, h3, tk3, L, es, ep, t, rfl, R, g, kp⟩
end
end BS
namespace E3
open PySem PySem.Spec PyProof.Rows L2
structure Feed (prog : Program) (w : World) (A : Around) (i l : Addr) (xs : Array Value) (S : Nat → Heap → Prop) : Prop where
  ne : i ≠ l
  keep : ∀ {k h h'}, S k h → (∀ o, h.get? i = some o → h'.get? i = some o) → (∀ o, h.get? l = some o → h'.get? l = some o) → S k h'
  live : ∀ {k h}, S k h → ∃ o, h.get? i = some o
  item : ∀ {k s x} {Q : Value → Shared → Prop} {E : Value → Shared → Prop}, S k s.heap → xs[k]? = some x →
    (∀ h', S (k + 1) h' → Heap.SameBut i s.heap h' → Q x { s with heap := h' }) → wpAny (model prog w) A (Builtin.SmallTypes.nextOf (.ref i)) Q E s
  stop : ∀ {k s} {Q : Value → Shared → Prop} {E : Value → Shared → Prop}, S k s.heap → xs[k]? = none →
    (∀ h' e, Heap.ExtBut i s.heap h' → (∃ o, h'.get? e = some o ∧ o.cls = .type "StopIteration") → E (.ref e) { s with heap := h' }) → wpAny (model prog w) A (Builtin.SmallTypes.nextOf (.ref i)) Q E s
section
variable {prog : Program} {w : World} {A : Around} {E : Value → Shared → Prop} {s : Shared} {z t u i j l m : Addr} {xs ys : Array Value} {S T : Nat → Heap → Prop} {p q : Nat}
end
section
variable {X : Cx} {E : WX} {e e' : Expr} {p pos tpos : Pos} {elts : List Expr} {kk : Nat} {ga : DS → Res (List D)}
end
end E3
namespace E3
open PySem PySem.Spec PyProof.Rows L2
theorem walk_e3 {l : PySem.W.OpenLaw} {k : Nat} {q : Program} {loose : List Str} {XP : (Str → Option Value) → Heap → Prop} {YP : World → Heap → Prop} {d : DefRec} {K : Params → PySem.W.Frag} {FL : List D → Res D}
    (hn : l.most = some 63) (hdf : d.params.defaults = []) (hr : Room k callerA) (hY : ∀ (w : World) (h : Heap), YP w h → (K w.params).In h)
    (F : ∀ (w : World) (mg : Str → Option Value) (fa : Addr) (h : Heap), (K w.params).In h → h.Ns mainGlobals mg → mg d.name = some (.ref fa) →
      ∃ fd : FuncData, (∀ (s : Shared) (u : Value), BindsTo s fd ⟨[u], []⟩ [("script", u)]) ∧ ∀ base : Heap, (K w.params).In base → base.Ns mainGlobals mg → FnD l.prog w (K w.params) mg base k fa fd ["script"] FL)
    (hF : ∀ ns : List Int, ns.length ≤ 63 → FL [.list (ns.map .int)] = .ok (.bool true)) :
    PySem.W.WalkO q loose XP YP l.row.toRowW d [] (fun f vs => PySem.call f vs) := by
  refine Att.attach_call hn hdf fun w s₀ s₁ mg mb fa o pm cd doc a vs ns G Y ho hd hcd hmg hobj hints hlen hg => ?_
  have KX := hY w _ Y
  obtain ⟨fd, hb, hFn⟩ := F w mg fa _ KX G.T.g hmg
  refine law_call (CX := L2.CX l.prog w) (sp := fun vs H Q _ => vs = [.ref a] ∧ SqL (K w.params) H a (ns.map V.int) ∧ ∀ H', Q (.bl true) H') KX G.T.g G.T.b G.T.builtins G.T.nolimit hg hobj hints (Nat.le_trans hlen (by decide)) hr
    (fun base h1 h2 => (hFn base h1 h2).imp fun us H Q Ex h => ?_) hb (fun H _ hS => ⟨rfl, hS, fun _ => rfl⟩) (fun H e s' z => ?_)
  · obtain ⟨rfl, hS, hQ⟩ := h
    have hL : LsQ (K w.params) H a (ns.map V.int) := by
      rcases hS with hS | ⟨ob, its, n, h1, h2, h3, h4, h5, h6⟩
      · exact .inl hS
      · have e := KX a ob h1
        rw [hobj] at e
        cases e
        cases h4
        exact .inr ⟨_, _, h1, h5, h6⟩
    refine ⟨rfl, H, [.list (ns.map .int)], Same.refl _, .cons (.lst hL (RpA.ints ns)) .nil, ?_⟩
    rw [hF ns hlen]
    intro v R' H' _ r
    cases r
    exact hQ H'
  · obtain ⟨_, _, _, _, _, _, _, _, _, _, _, _, w⟩ := z
    exact w
theorem hu64 {A : Around} {k : Nat} (hr : Room k A) : A.units + 64 < cLine := by have := hr.un; omega
theorem hu65 {A : Around} {k : Nat} (hr : Room k A) : A.units + 65 < cLine := by have := hr.un; omega
theorem hu70 {A : Around} {k : Nat} (hr : Room k A) : A.units + 70 < cLine := by have := hr.un; omega
end E3
namespace E3
open PySem PySem.Spec PyProof.Rows L2
section
variable {X : Cx} {E : WX} {a b : Expr} {f g : DS → Res D} {pos p p2 pos2 : Pos}
end
end E3
namespace E3
open PySem PySem.Spec PyProof.Rows L2
section
variable {X : Cx} {E : WX} {a b c : Expr} {f g k : DS → Res D} {pos : Pos}
end
end E3
namespace E3
open PySem PySem.Spec PyProof.Rows L2
section
variable {X : Cx} {E : WX} {o e : Expr} {f g : DS → Res D} {pos apos : Pos}
end
end E3
namespace E3
open PySem PySem.Spec PyProof.Rows L2
def overI (o : List Int → Res D) : List D → Res D
  | [.list ds] => match intsOf ds with
    | some ns => o ns
    | none => .stuck
  | _ => .stuck
def sumD : List D → Res D := overI fun ns => .ok (.int ns.sum)
section
variable {X : Cx}
theorem overI_run {o : List Int → Res D} {K : PySem.W.Frag} {mg : Str → Option Value} {Ex : XK} {R H : Hp} {Q : VK} {vs : List V} {ds : List D} (r : RpA K R vs ds) (s : Same R H) (h : Post K mg Ex (rV K) R H Q (overI o ds)) : ∃ a ns, vs = [.ref a] ∧ SqL K H a (ns.map V.int) ∧ Post K mg Ex (rV K) R H Q (o ns) := by
  match ds, r, h with
  | [.list es], r, h =>
    obtain ⟨v, rfl, q⟩ := one_inv r
    cases q with
    | lst g1 g2 =>
      rename_i aa xs
      simp only [overI] at h
      split at h
      · rename_i ns hn
        have e := intsOf_inv hn
        subst e
        have e2 := g2.ints_inv
        subst e2
        exact ⟨_, ns, rfl, (ls_same s g1).sq, h⟩
      · exact h.elim
  | [], _, h => exact h.elim
  | [.none], _, h => exact h.elim
  | [.bool _], _, h => exact h.elim
  | [.int _], _, h => exact h.elim
  | [.str _], _, h => exact h.elim
  | [.tuple _], _, h => exact h.elim
  | [.dict _], _, h => exact h.elim
  | d1 :: _ :: _, _, h => cases d1 <;> exact h.elim
theorem cd_sum (hc : X.calm = true) : CallD X (.builtin "sum") sumD := ⟨_, cr_sum hc, fun vs ds R H Q Ex r s h => by
  obtain ⟨a, ns, e, l, q⟩ := overI_run r s h
  exact ⟨a, ns, e, l, Post.now s (Rp.int _) q⟩⟩
end
end E3
namespace E3
open PySem PySem.Spec PyProof.Rows L2
section
variable {X : Cx} {E : WX}
def keyNE : D × D → Bool
  | (.tuple (_ :: _), _) => true
  | _ => false
def sortAnyD : List D → Res D
  | [.dict kvs] => if kvs.all keyNE then .ok (.list (sortL (kvs.map (·.1)))) else .stuck
  | ds => sortedD ds
def lenAny : List D → Res D
  | [.dict kvs] => if obK kvs then .stuck else .ok (.int kvs.length)
  | ds => lenD ds
def dropD (kvs : List (D × D)) (k : List Int) : List (D × D) := kvs.filter fun p => decide (keyOf p.1 ≠ some k)
theorem RpK.drop {K : PySem.W.Frag} {R : Hp} (k : List Int) : ∀ {ks : List (List Key × V)} {kvs : List (D × D)}, RpK K R ks kvs → RpK K R (dropK ks (k.map Sum.inl)) (dropD kvs k)
  | _, _, .nil => .nil
  | _, _, .cons (k := j) (v := vv) (d := dd) (kvs := ks) (ds := kvs) h r => by
    have ih := r.drop k
    by_cases e : j = k
    · subst e
      have e1 : dropK ((j.map Sum.inl, vv) :: ks) (j.map Sum.inl) = dropK ks (j.map Sum.inl) := List.filter_cons_of_neg (by simp)
      have e2 : dropD ((.tuple (j.map .int), dd) :: kvs) j = dropD kvs j := List.filter_cons_of_neg (by simp [keyOf_t])
      rw [e1, e2]; exact ih
    · have e1 : dropK ((j.map Sum.inl, vv) :: ks) (k.map Sum.inl) = (j.map Sum.inl, vv) :: dropK ks (k.map Sum.inl) := List.filter_cons_of_pos (by simpa using fun z => e (key_inj.mp z))
      have e2 : dropD ((.tuple (j.map .int), dd) :: kvs) k = (.tuple (j.map .int), dd) :: dropD kvs k := List.filter_cons_of_pos (by simpa [keyOf_t] using e)
      rw [e1, e2]; exact .cons h ih
def popK (i : Nat) (σ : SS) (kvs : List (D × D)) (k : D) (g : D → SS → SR) : SR := match keyOf k with
  | some ns => match valK kvs ns with
    | some d => g d (σ.set i (some (.ow (.dict (dropD kvs ns)))))
    | none => .stuck
  | none => .stuck
def sPopD (i : Nat) (fk : DS → Res (List D)) : SF := fun σ => ownD i σ fun kvs => thenR (fk (view σ)) σ fun ds => if flatA ds then (match ds with
  | [k] => popK i σ kvs k fun _ σ' => .ok .nx σ'
  | _ => .stuck) else .stuck
variable {R0 H0 R H : Hp} {σ : SS} {τ : L2.St} {Dn : Ends} {x : Str} {np apos pos pos' : Pos} {e : Expr} {ga : DS → Res (List D)}
def setIx (i : Nat) (σ : SS) (c : List D) (k v : D) : SR := match k with
  | .int j => match ixN c.length j with
    | some n => .ok .nx (σ.set i (some (.ow (.list (c.set n v)))))
    | none => .stuck
  | _ => .stuck
def sStoreV (i : Nat) (fk fv : DS → Res D) : SF := fun σ => ownL i σ fun c => thenR (fv (view σ)) σ fun v => if flat v then thenR (fk (view σ)) σ fun k => if flat k then setIx i σ c k v else .stuck else .stuck
variable {i value : Expr} {fk fv : DS → Res D}
theorem setIx_run {j : Nat} {dk dv : D} {k v : V} {a : Addr} {c : List D} (hc : σ[j]? = some (some (.ow (.list c)))) (h1 : τ[j]? = some (some (.ref a))) (I : RO X.K R0 H0 R H σ τ) (rk : Rp X.K R k dk) (rv : Rp X.K R v dv) (q : SPost X E R0 H0 Dn (setIx j σ c dk dv)) :
    rSetL (.ref a) k v H fun H4 => Dn.nx τ H4 := by
  obtain ⟨a', h1', h2, h3, xs, h4, h5⟩ := I.ow j _ hc
  rw [h1] at h1'; cases h1'
  unfold setIx at q
  split at q
  · rename_i ji
    split at q
    · rename_i n hn
      cases rk
      exact ⟨a, xs, ji, n, rfl, rfl, h4, by rw [h5.length]; exact hn, q R _ τ (I.mut (d := .list (c.set n dv)) hc h1 ⟨_, upd_same, h5.set rv n⟩)⟩
    · exact q.elim
  · exact q.elim
theorem ds_storeV (j : Nat) (hv : IsV X j x np) (hk : DE X E i fk) (hval : DE X E value fv) (hs : swapsWithSole [.Subscript (.Name x np) i pos'] value pos.line X.env = pure false := by rfl)
    (hw : swappedStores [.Subscript (.Name x np) i pos'] value X.env = pure none := by rfl) (h1 : (assignEach [.Subscript (.Name x np) i pos'] X.env).map (·.2) = [assign (.Subscript (.Name x np) i pos') X.env] := by rfl)
    (hg : ∀ v, assign (.Subscript (.Name x np) i pos') X.env v = (do
      let ov ← holding [v] (eval (.Name x np) X.env)
      let iv ← holding [v, ov] (eval i X.env)
      standAt pos'
      holding [v, ov, iv] (setItem ov iv v)
      release [v, ov, iv] []) := by intro _; rfl) :
    DS1 X E (.Assign [.Subscript (.Name x np) i pos'] value pos) (sStoreV j fk fv) := by
  obtain ⟨ta, a1, a2⟩ := hk
  obtain ⟨tb, b1, b2⟩ := hval
  refine ⟨_, ps_asg b1 (pg_sub hv a1 set_list hg) hs hw h1, fun R0 H0 σ τ R H Dn I q => ?_⟩
  obtain ⟨a, xs, c, hc, e1, h3, h4, h5, q⟩ := ownL_run I q
  refine b2 (view σ) τ (full σ τ R H) H _ I.viewed I.fullH (post_view I q fun dv v R' H' J y z => ⟨_, e1, ?_⟩)
  refine a2 (view σ) τ (full σ τ R' H') H' _ J.viewed J.fullH ?_
  have key := z
  cases w : fk (view σ) with
  | ok dk =>
    rw [w] at key
    intro k R2 H2 e2 q2
    have key2 : SPost X E R0 H0 Dn (if flat dk then setIx j σ c dk dv else .stuck) := key
    by_cases hf : flat dk = true
    · rw [if_pos hf] at key2
      obtain ⟨J2, tu⟩ := J.stepF e2
      have same : Same R' (hide σ τ R2) := fun b o e => by
        have n : ¬ owned σ τ b := fun z => by rw [(J.ownd z).1] at e; cases e
        rw [hide_n n]
        exact e2.rr _ _ (by rw [full_n n]; exact e)
      exact setIx_run hc e1 J2 (Rp.flat tu q2 hf) (y.mono same) key2
    · rw [if_neg hf] at key2; exact key2.elim
  | exc ex => rw [w] at key; exact fun cc dx H2 s y2 => key cc dx R' H2 τ (J.same s) (y2.back J.ext.hh)
  | stuck => rw [w] at key; exact key
end
end E3
namespace E3
open PySem PySem.Spec PyProof.Rows L2
open PySem.W (minD maxD min_list_data max_list_data AlikeAll readsAll_at reads_keeps)
section
variable {X : Cx} {E : WX} {sts : List Stmt}
end
end E3
namespace E3
open PySem PySem.Spec PyProof.Rows L2
section
variable {X : Cx} {E : WX}
end
end E3
namespace BS
open PySem PySem.Spec PyProof.Rows L2 E3
structure Set0 (P : Program) (w : World) (h : Heap) (a : Addr) (L : List (Addr × List Int)) : Prop where
  ex : ∃ (es : Array (Int × Value)) (ep : Nat) (t : SetTable), (∃ o, h.get? a = some o ∧ o.ExactSet ∧ o.data = .set es ep t) ∧ ((∀ p ∈ L, IsT P w h p.2 p.1) → SetB P w h a L es ep t) ∧
    ∀ h' : Heap, (∀ o, h.get? a = some o → h'.get? a = some o) → (∀ p ∈ L, IsT P w h' p.2 p.1) → SetB P w h' a L es ep t
def SetO (P : Program) (w : World) (a : Addr) (L : List (Addr × List Int)) : HO := .ext fun h => Set0 P w h a L
theorem set0_of {P : Program} {w : World} {h : Heap} {a : Addr} {L : List (Addr × List Int)} {es : Array (Int × Value)} {ep : Nat} {t : SetTable} (R : SetB P w h a L es ep t) : Set0 P w h a L :=
  ⟨es, ep, t, R.ob, fun ht => R.keep (fun _ e => e) ht, fun h' k ht => R.keep k ht⟩
theorem Set0.keep {P : Program} {w : World} {h h' : Heap} {a : Addr} {L : List (Addr × List Int)} (R : Set0 P w h a L) (k : ∀ o, h.get? a = some o → h'.get? a = some o) : Set0 P w h' a L := by
  obtain ⟨es, ep, t, ⟨o, ho, r⟩, f, g⟩ := R.ex
  exact ⟨es, ep, t, ⟨o, k o ho, r⟩, fun ht => g h' k ht, fun h2 k2 ht => g h2 (fun o e => by
    have := k2 _ (k _ ho)
    rw [ho] at e
    cases e
    exact this) ht⟩
theorem setO_new {P : Program} {w : World} {H : Hp} {h : Heap} {a : Addr} {L : List (Addr × List Int)} (R : Set0 P w h a L) : ObjOk P w H h a (SetO P w a L) := by
  have ⟨es, ep, t, ⟨o, ho, r⟩, q⟩ := R.ex
  exact ⟨R, ⟨o, ho⟩, fun h1 h2 p k => Set0.keep p k⟩
section
variable {X : Cx}
def rSetB (K : PySem.W.Frag) (P : Program) (w : World) : List V → Hp → VK → Prop := fun xs H Q => ∃ (l : Addr) (ks : List (Addr × List Int)), xs = [V.ref l] ∧ (SqL K H l (ks.map fun p => V.ref p.1) ∨ SqT K H l (ks.map fun p => V.ref p.1)) ∧ (∀ p ∈ ks, SqT K H p.1 (p.2.map V.int)) ∧ (∀ L : List (Addr × List Int), (L.map (·.2)).Nodup → (∀ p ∈ L, p ∈ ks) → L.length + 1 < 4096) ∧
  ∀ a L, H a = none → (∀ p ∈ L, p ∈ ks) → (∀ p ∈ ks, p.2 ∈ L.map (·.2)) → Q (.ref a) (upd H a (SetO P w a L))
theorem cr_setB (hc : X.calm = true) (hu : X.A.units + 64 < cLine) : CallR X (.type "set") (rSetB X.K X.prog X.w) := fun pins s τ H xs us Q I r h => by
  obtain ⟨l, ks, rfl, hl, hk, hf, q⟩ := h
  rw [Vals.ref1 r]
  have hn := I.hok.fresh (Nat.le_refl s.heap.objs.size)
  have fin : ∀ (h' : Heap) (tk : Nat) L es ep t, SetB X.prog X.w h' s.heap.objs.size L es ep t → Got ks ks.length L → (∀ b o, s.heap.get? b = some o → h'.get? b = some o) →
      ∃ (x : V) (H' : Hp), Inv X pins τ H' { s with heap := h', toks := tk } ∧ RelV x (Value.ref s.heap.objs.size) ∧ Q x H' := fun h' tk L es ep t R g k =>
    ⟨.ref s.heap.objs.size, _, I.laid (t' := tk) k (Nat.le_refl _) (setO_new (set0_of R)), rfl, q _ L hn (fun p hp => List.mem_of_mem_take (g.sub p hp)) fun p hp => g.all p (by rw [List.take_length]; exact hp)⟩
  rcases hl with hl | hl
  · obtain ⟨its, rv, pl, _⟩ := I.list hl
    exact set_of_list_b (P := X.prog) (w := X.w) ks (I.ok.hd hc) pl.isList (by simpa using refs_of_vals rv) (fun p hp => Inv.isT I (hk p hp)) hf (by omega) fin
  · obtain ⟨its, rv, pl, _⟩ := I.tuple hl
    exact set_of_tup_b (P := X.prog) (w := X.w) ks (I.ok.hd hc) pl (by simpa using refs_of_vals rv) (fun p hp => Inv.isT I (hk p hp)) hf (by omega) fin
def rSortB (K : PySem.W.Frag) (P : Program) (w : World) : List V → Hp → VK → Prop := fun vs H Q => ∃ (a : Addr) (L : List (Addr × List Int)), vs = [V.ref a] ∧ H a = some (SetO P w a L) ∧ (∀ p ∈ L, SqT K H p.1 (p.2.map V.int)) ∧ (∀ p ∈ L, p.2 ≠ []) ∧
  ∀ (L1 : List (Addr × List Int)) (p : Addr), L1.Perm L → (L1.map (·.2)).Nodup → H p = none → Q (.ref p) (upd H p (.lst ((L1.mergeSort (PySem.W.dataLe false encL)).map fun q => V.ref q.1)))
theorem cr_sortB (hc : X.calm = true) (hu : X.A.units + 70 < cLine) : CallR X (.builtin "sorted") (rSortB X.K X.prog X.w) := fun pins s τ H vs us Q I r h => by
  obtain ⟨a, L, rfl, ha, hk, hne, q⟩ := h
  have R0 : Set0 X.prog X.w s.heap a L := (I.hok a _ ha).1
  obtain ⟨es, ep, t, _, full, _⟩ := R0.ex
  have R := full fun p hp => Inv.isT I (hk p hp)
  rw [Vals.ref1 r]
  have hh := I.ok.hd hc
  obtain ⟨o, ho, hex, hd⟩ := R.ob
  have hsz := R.size
  have hfew := R.few
  refine Calls.call_function_entry kind_sorted plain_sorted entry_sorted (args_sorted1 _) ?_
  unfold Builtin.«sorted»
  refine wpAny_bind (m := checkCount "sorted" 1 1 _) (wpAny_pure ?_)
  refine wpAny_bind (collect_set (A := X.A.in1) hh ⟨o, ho, hex.1, hd⟩ R.fits (by unfold scanBound; omega) R.tab.up R.led fun s1 vs k1 hz g1 o1 pm => ?_)
  have hes : es.toList.map (·.2) = L.map fun q => Value.ref q.1 := by
    rw [R.rows]; unfold rowsOf; rw [List.map_map]; rfl
  obtain ⟨L1, p1, e1⟩ := perm_map_ex (fun q : Addr × List Int => Value.ref q.1) pm hes
  subst e1
  generalize hvs : L1.map (fun q : Addr × List Int => Value.ref q.1) = vs
  have len1 : L1.length = L.length := p1.length_eq
  have J1 : Inv X pins τ H s1 := Inv.call' I o1 (ch := []) (Un.kept k1) (I.hok.kept k1) (by rw [g1]; exact I.bare) (fun _ z => nomatch z)
  have hvl : vs.length = L1.length := by rw [← hvs, List.length_map]
  refine wpAny_bind (wpAny_newList ?_ (by rw [sizeLine_eq]; omega))
  have hoL : (s1.heap.push (seqObj "list" vs.toArray 0)).get? s1.heap.objs.size = some (seqObj "list" vs.toArray 0) := Heap.get?_push_size _ rfl
  have tk : ∀ q ∈ L1, IsT X.prog X.w (s1.heap.push (seqObj "list" vs.toArray 0)) q.2 q.1 := fun q hq =>
    isT_keep (R.tup q (p1.mem_iff.mp hq)) fun b u e => Heap.get?_push_of_some _ (k1 b u e)
  have al : PySem.W.AllAlike (L1.map encL) := PySem.W.AllAlike.of fun b b' => alike_encK _ _
  refine wpAny_bind (wpAny_holding (PySem.W.list_sort_data (s := { s1 with heap := s1.heap.push (seqObj "list" vs.toArray 0) }) (vs := vs) (bs := L1) (enc := encL) (R := fun u q => u = Value.ref q.1) hoL (hvs ▸ each_L L1 fun _ _ => rfl)
    (hvs ▸ each_L L1 fun q hq => ⟨[], reads_isT (hvs ▸ tk q hq), by simp⟩) al (.inl fun d hd => ?_) (by rw [sizeLine_eq]; omega) (fun b hb => ?_) fun out ho eo => ?_))
  · obtain ⟨q, hq, rfl⟩ := List.mem_map.mp hd
    have hq0 := hne q (p1.mem_iff.mp hq)
    show ∃ x r, PyData.tuple (q.2.map .int) = .tuple (x :: r)
    cases e : q.2 with
    | nil => exact absurd e hq0
    | cons n r => exact ⟨_, _, rfl⟩
  · have := depth_encK b.2
    show X.A.in1.units + 1 + (encK b.2).depth < cLine
    have e : X.A.in1.units = X.A.units + 1 := rfl
    omega
  · obtain ⟨c, hc'⟩ := sortedHeap_at (vs := vs) (out := out.toArray) hoL
    have eo' := each_refs eo
    have hn : H s1.heap.objs.size = none := J1.hok.fresh (Nat.le_refl _)
    have k2 : ∀ b u, s1.heap.get? b = some u → (sortedHeap (s1.heap.push (seqObj "list" vs.toArray 0)) s1.heap.objs.size vs out.toArray).get? b = some u := fun b u e => by
      have hlt := Heap.lt_size e
      rw [sortedHeap_old (Nat.ne_of_lt hlt) (by rw [size_push']; exact Nat.lt_succ_of_lt hlt)]
      exact Heap.get?_push_of_some _ e
    have nd : (L1.map (·.2)).Nodup := (p1.map (·.2)).nodup_iff.mpr R.nd
    refine wpAny_pure ⟨_, rfl, .ref s1.heap.objs.size, _, ?_, rfl, q L1 s1.heap.objs.size p1 nd hn⟩
    refine J1.laid (t' := s1.toks) k2 (Nat.le_refl _) ⟨?_, out, c, ?_, hc'⟩
    · rw [List.length_map, (List.mergeSort_perm _ _).length_eq, len1, sizeLine_eq]; omega
    · rw [eo']; exact vals_of_refs _
end
theorem nodup_le {α : Type} [DecidableEq α] : ∀ {l m : List α}, l.Nodup → (∀ x ∈ l, x ∈ m) → l.length ≤ m.length
  | [], _, _, _ => Nat.zero_le _
  | a :: l, m, nd, sb => by
    have ha : a ∈ m := sb a List.mem_cons_self
    have nd' := List.nodup_cons.mp nd
    have h := nodup_le (l := l) (m := m.erase a) nd'.2 fun x hx => (List.mem_erase_of_ne (fun z => nd'.1 (by rw [← z]; exact hx))).mpr (sb x (List.mem_cons_of_mem _ hx))
    have h2 := List.length_erase_of_mem ha
    have h3 := List.length_pos_of_mem ha
    rw [List.length_cons]
    omega
def setOfB (ds : List D) : Res D := match keysOf ds with
  | some ks => if (dd ks).length ≤ 4094 ∧ (ks.all fun k => !k.isEmpty) = true then .ok (.list ((riseK (dd ks)).map encK)) else .stuck
  | none => .stuck
def sortSetB : D → Res D
  | .list ds => setOfB ds
  | .tuple ds => setOfB ds
  | _ => .stuck
section
variable {X : Cx} {E : WX} {e : Expr} {f : DS → Res D} {pos p p2 pos2 : Pos}
theorem dn_sortedSetB (hc : X.calm = true) (hu : X.A.units + 70 < cLine) (hg : Gl X "sorted") (hm : X.mg "sorted" = none) (hb : bootBuiltins "sorted" = some (.builtin "sorted")) (hg2 : Gl X "set") (hm2 : X.mg "set" = none) (hb2 : bootBuiltins "set" = some (.type "set")) (he : DE X E e f)
    (h1 : starEach [e] X.env = (false, eval e X.env) :: starEach [] X.env := by rfl) (hp1 : (backTo pos2 (starEach [] X.env)).any (·.1) = false := by rfl)
    (h2 : starEach [.Call (.Name "set" p2) [e] [] pos2] X.env = (false, eval (.Call (.Name "set" p2) [e] [] pos2) X.env) :: starEach [] X.env := by rfl) (hp2 : (backTo pos (starEach [] X.env)).any (·.1) = false := by rfl) :
    DN X E (.Call (.Name "sorted" p) [.Call (.Name "set" p2) [e] [] pos2] [] pos) (e1 sortSetB f) := by
  obtain ⟨t, a1, a2⟩ := he
  refine ⟨_, pe_callB (cr_sortB hc hu) hg hm hb (pa_cons (pe_callTy (cr_setB hc (by omega)) hg2 hm2 hb2 (pa_cons a1 pa_nil h1) (by decide) (by decide) h1 hp1) pa_nil h2) (by decide) (by decide) h2 hp2, fun σ τ R H Q hs s h => a2 σ τ R H _ hs s (post_bindN h fun d v R1 H1 x1 q1 k => ?_)⟩
  cases q1 with
  | lst g1 g2 =>
    rename_i l xs ds
    simp only [sortSetB, setOfB] at k
    split at k
    · rename_i ks hk
      split at k
      · rename_i hl
        obtain ⟨L0, e1, e2, e3⟩ := keys_run g2 hk
        subst e1
        have hl1 : ∀ L : List (Addr × List Int), (L.map (·.2)).Nodup → (∀ p ∈ L, p ∈ L0) → L.length + 1 < 4096 := fun L nd sb => by
          have h1 := hl.1
          have h2 : (L.map (·.2)).length ≤ (dd ks).length := nodup_le nd fun x hx => by
            obtain ⟨r, hr, rfl⟩ := List.mem_map.mp hx
            rw [mem_dd, e2]
            exact List.mem_map.mpr ⟨r, sb r hr, rfl⟩
          rw [List.length_map] at h2
          omega
        have s1 := x1.sub
        refine ⟨l, L0, rfl, .inl (ls_same s1 g1).sq, fun p hp => SqT.of (s1 _ _ (e3 p hp)), hl1, fun a L ha sub cov => ?_⟩
        have s2 : Same H1 (upd H1 a (SetO X.prog X.w a L)) := same_new ha
        have e4 : ∀ p ∈ L, R1 p.1 = some (.tup (p.2.map V.int)) := fun p hp => e3 p (sub p hp)
        refine ⟨a, L, rfl, upd_same, fun p hp => SqT.of (s2 _ _ (s1 _ _ (e4 p hp))), fun p hp => ?_, fun L1 q pm nd hq => ?_⟩
        · have hm : p.2 ∈ ks := by rw [e2]; exact List.mem_map.mpr ⟨p, sub p hp, rfl⟩
          have := List.all_eq_true.mp hl.2 _ hm
          intro z
          rw [z] at this
          cases this
        · have keq : (L1.mergeSort (PySem.W.dataLe false encL)).map encL = (riseK (dd ks)).map encK := by
            have m1 : (L1.mergeSort (PySem.W.dataLe false encL)).map encL = sortL (L1.map encL) := PySem.W.sort_maps (r := PySem.W.dataLe false encL) (s := leD') encL (fun a _ b _ => rfl)
            have m2 : L1.map encL = (L1.map (·.2)).map encK := by rw [List.map_map]; rfl
            rw [m1, m2, sortL_enc]
            congr 1
            refine riseK_uniq ((List.perm_ext_iff_of_nodup nd (nodup_dd _)).mpr fun x => ?_)
            rw [mem_dd]
            constructor
            · intro hx
              obtain ⟨r, hr, rfl⟩ := List.mem_map.mp hx
              rw [e2]
              exact List.mem_map.mpr ⟨r, sub r (pm.mem_iff.mp hr), rfl⟩
            · intro hx
              rw [e2] at hx
              obtain ⟨r, hr, rfl⟩ := List.mem_map.mp hx
              obtain ⟨r2, hr2, e⟩ := List.mem_map.mp (cov r hr)
              exact List.mem_map.mpr ⟨r2, pm.mem_iff.mpr hr2, e⟩
          have e5 : ∀ r ∈ L1.mergeSort (PySem.W.dataLe false encL), R1 r.1 = some (.tup (r.2.map V.int)) := fun r hr => e4 r (pm.mem_iff.mp ((List.mergeSort_perm _ _).mem_iff.mp hr))
          have ra : RpA X.K R1 ((L1.mergeSort (PySem.W.dataLe false encL)).map fun q => V.ref q.1) ((riseK (dd ks)).map encK) := by
            rw [← keq]
            exact refsL e5
          refine k q R1 _ ⟨Same.refl _, (s1.trans s2).trans (same_new hq), s2.trans (same_new hq), fun _ _ z => .inl z⟩ (s1.free (s2.free hq)) (s2.free hq) ⟨_, upd_same, ra⟩
      · exact k.elim
    · exact k.elim
  | tup g1 g2 =>
    rename_i l xs ds
    simp only [sortSetB, setOfB] at k
    split at k
    · rename_i ks hk
      split at k
      · rename_i hl
        obtain ⟨L0, e1, e2, e3⟩ := keys_run g2 hk
        subst e1
        have hl1 : ∀ L : List (Addr × List Int), (L.map (·.2)).Nodup → (∀ p ∈ L, p ∈ L0) → L.length + 1 < 4096 := fun L nd sb => by
          have h1 := hl.1
          have h2 : (L.map (·.2)).length ≤ (dd ks).length := nodup_le nd fun x hx => by
            obtain ⟨r, hr, rfl⟩ := List.mem_map.mp hx
            rw [mem_dd, e2]
            exact List.mem_map.mpr ⟨r, sb r hr, rfl⟩
          rw [List.length_map] at h2
          omega
        have s1 := x1.sub
        refine ⟨l, L0, rfl, .inr (SqT.of (s1 _ _ g1)), fun p hp => SqT.of (s1 _ _ (e3 p hp)), hl1, fun a L ha sub cov => ?_⟩
        have s2 : Same H1 (upd H1 a (SetO X.prog X.w a L)) := same_new ha
        have e4 : ∀ p ∈ L, R1 p.1 = some (.tup (p.2.map V.int)) := fun p hp => e3 p (sub p hp)
        refine ⟨a, L, rfl, upd_same, fun p hp => SqT.of (s2 _ _ (s1 _ _ (e4 p hp))), fun p hp => ?_, fun L1 q pm nd hq => ?_⟩
        · have hm : p.2 ∈ ks := by rw [e2]; exact List.mem_map.mpr ⟨p, sub p hp, rfl⟩
          have := List.all_eq_true.mp hl.2 _ hm
          intro z
          rw [z] at this
          cases this
        · have keq : (L1.mergeSort (PySem.W.dataLe false encL)).map encL = (riseK (dd ks)).map encK := by
            have m1 : (L1.mergeSort (PySem.W.dataLe false encL)).map encL = sortL (L1.map encL) := PySem.W.sort_maps (r := PySem.W.dataLe false encL) (s := leD') encL (fun a _ b _ => rfl)
            have m2 : L1.map encL = (L1.map (·.2)).map encK := by rw [List.map_map]; rfl
            rw [m1, m2, sortL_enc]
            congr 1
            refine riseK_uniq ((List.perm_ext_iff_of_nodup nd (nodup_dd _)).mpr fun x => ?_)
            rw [mem_dd]
            constructor
            · intro hx
              obtain ⟨r, hr, rfl⟩ := List.mem_map.mp hx
              rw [e2]
              exact List.mem_map.mpr ⟨r, sub r (pm.mem_iff.mp hr), rfl⟩
            · intro hx
              rw [e2] at hx
              obtain ⟨r, hr, rfl⟩ := List.mem_map.mp hx
              obtain ⟨r2, hr2, e⟩ := List.mem_map.mp (cov r hr)
              exact List.mem_map.mpr ⟨r2, pm.mem_iff.mpr hr2, e⟩
          have e5 : ∀ r ∈ L1.mergeSort (PySem.W.dataLe false encL), R1 r.1 = some (.tup (r.2.map V.int)) := fun r hr => e4 r (pm.mem_iff.mp ((List.mergeSort_perm _ _).mem_iff.mp hr))
          have ra : RpA X.K R1 ((L1.mergeSort (PySem.W.dataLe false encL)).map fun q => V.ref q.1) ((riseK (dd ks)).map encK) := by
            rw [← keq]
            exact refsL e5
          refine k q R1 _ ⟨Same.refl _, (s1.trans s2).trans (same_new hq), s2.trans (same_new hq), fun _ _ z => .inl z⟩ (s1.free (s2.free hq)) (s2.free hq) ⟨_, upd_same, ra⟩
      · exact k.elim
    · exact k.elim
  | _ => exact k.elim
end
end BS
namespace E3
open PySem PySem.Spec PyProof.Rows L2
inductive XR (α : Type) where
  | ok (a : α) (σ : SS)
  | exc (e : Exn) (σ : SS)
  | stuck
def XR.bind {α β : Type} (r : XR α) (k : α → SS → XR β) : XR β := match r with
  | .ok a σ => k a σ
  | .exc e σ => .exc e σ
  | .stuck => .stuck
@[simp] theorem XR.bind_ok {α β : Type} (a : α) (σ : SS) (k : α → SS → XR β) : (XR.ok a σ).bind k = k a σ := rfl
@[simp] theorem XR.bind_exc {α β : Type} (e : Exn) (σ : SS) (k : α → SS → XR β) : (XR.exc e σ : XR α).bind k = .exc e σ := rfl
@[simp] theorem XR.bind_stuck {α β : Type} (k : α → SS → XR β) : (XR.stuck : XR α).bind k = .stuck := rfl
def XR.of {α : Type} (σ : SS) (r : Res α) : XR α := match r with
  | .ok a => .ok a σ
  | .exc e => .exc e σ
  | .stuck => .stuck
@[simp] theorem XR.of_ok {α : Type} (a : α) (σ : SS) : XR.of σ (.ok a) = .ok a σ := rfl
@[simp] theorem XR.of_exc {α : Type} (e : Exn) (σ : SS) : XR.of σ (.exc e : Res α) = .exc e σ := rfl
@[simp] theorem XR.of_stuck {α : Type} (σ : SS) : XR.of σ (.stuck : Res α) = .stuck := rfl
def thenX {α : Type} (r : XR α) (k : α → SS → SR) : SR := match r with
  | .ok a σ => k a σ
  | .exc e σ => .exc e σ
  | .stuck => .stuck
@[simp] theorem thenX_ok {α : Type} (a : α) (σ : SS) (k : α → SS → SR) : thenX (.ok a σ) k = k a σ := rfl
@[simp] theorem thenX_exc {α : Type} (e : Exn) (σ : SS) (k : α → SS → SR) : thenX (.exc e σ : XR α) k = .exc e σ := rfl
@[simp] theorem thenX_stuck {α : Type} (k : α → SS → SR) : thenX (.stuck : XR α) k = .stuck := rfl
def XPost {α β : Type} (X : Cx) (E : WX) (rel : Hp → β → α → Prop) (R0 H0 R : Hp) (τ : L2.St) (Q : β → Hp → Prop) : XR α → Prop
  | .ok d σ => ∀ v R' H', Same R R' → RO X.K R0 H0 R' H' σ τ → rel R' v d → Q v H'
  | .exc e σ => ∀ c dx R' H', RO X.K R0 H0 R' H' σ τ → ExL X.K X.mg H0 e c dx H' → E c dx τ H'
  | .stuck => False
structure XE (X : Cx) (E : WX) (e : Expr) (f : SS → XR D) : Prop where
  run : ∃ t : TE, PE X e t ∧ ∀ (R0 H0 : Hp) (σ : SS) (τ : L2.St) (R H : Hp) (Q : VK), RO X.K R0 H0 R H σ τ → XPost X E (rV X.K) R0 H0 R τ Q (f σ) → t τ H Q
structure XA (X : Cx) (E : WX) (es : List Expr) (f : SS → XR (List D)) : Prop where
  run : ∃ t : TA, PA X es t ∧ ∀ (R0 H0 : Hp) (σ : SS) (τ : L2.St) (R H : Hp) (Q : List V → Hp → Prop), RO X.K R0 H0 R H σ τ → XPost X E (rA X.K) R0 H0 R τ Q (f σ) → t τ H Q
structure XT (X : Cx) (E : WX) (e : Expr) (f : SS → XR Bool) : Prop where
  run : ∃ t : TT, PT X e t ∧ ∀ (R0 H0 : Hp) (σ : SS) (τ : L2.St) (R H : Hp) (Q : Bool → Hp → Prop), RO X.K R0 H0 R H σ τ → XPost X E rB R0 H0 R τ Q (f σ) → t τ H Q
structure XW (X : Cx) (E : WX) (e : Expr) (f : SS → XR Bool) : Prop where
  run : ∃ t : TT, PW X e t ∧ ∀ (R0 H0 : Hp) (σ : SS) (τ : L2.St) (R H : Hp) (Q : Bool → Hp → Prop), RO X.K R0 H0 R H σ τ → XPost X E rB R0 H0 R τ Q (f σ) → t τ H Q
section
variable {X : Cx} {E : WX} {R0 H0 R H Rb : Hp} {σ : SS} {τ : L2.St}
variable {e a b : Expr} {es : List Expr} {f g : SS → XR D} {ga : SS → XR (List D)} {pos : Pos}
def xM (f : DS → Res D) : SS → XR D := fun σ => .of σ (f (mask σ))
def flatR (r : Res D) : Res D := match r with
  | .ok d => if flat d then .ok d else .stuck
  | r => r
def xV (f : DS → Res D) : SS → XR D := fun σ => .of σ (flatR (f (view σ)))
def xB (f : DS → Res Bool) : SS → XR Bool := fun σ => .of σ (f (view σ))
def x2 (o : D → D → Res D) (f g : SS → XR D) : SS → XR D := fun σ => (f σ).bind fun x σ => (g σ).bind fun y σ => .of σ (o x y)
def xTB (f : SS → XR D) : SS → XR Bool := fun σ => (f σ).bind fun d σ => .of σ (asB d)
variable {p q : SS → XR Bool} {rest : List Expr}
def xAnd (p q : SS → XR Bool) : SS → XR Bool := fun σ => (p σ).bind fun b σ => if b then q σ else .ok false σ
theorem XW.pt (h : XW X E e p) : XT X E e p := by
  obtain ⟨t, a, b⟩ := h
  exact ⟨t, a.pt, b⟩
def xNil : SS → XR (List D) := fun σ => .ok [] σ
def xCons (f : SS → XR D) (g : SS → XR (List D)) : SS → XR (List D) := fun σ => (f σ).bind fun x σ => (g σ).bind fun xs σ => .ok (x :: xs) σ
def xTup (g : SS → XR (List D)) : SS → XR D := fun σ => (g σ).bind fun ds σ => .of σ (tupD ds)
def xLst (g : SS → XR (List D)) : SS → XR D := fun σ => (g σ).bind fun ds σ => .of σ (lstD ds)
def xSl (f : SS → XR D) (lo hi : DS → Res (Option Int)) : SS → XR D := fun σ => (f σ).bind fun x σ => .of σ ((lo (mask σ)).bind fun l => (hi (mask σ)).bind fun u => slD x l u)
def xCall (F : List D → Res D) (g : SS → XR (List D)) : SS → XR D := fun σ => (g σ).bind fun ds σ => .of σ (F ds)
variable {k : Nat} {fa : Addr} {fd : FuncData} {ps : List Str} {F : List D → Res D} {x : Str} {p1 : Pos}
variable {id T : String}
end
def less (H : Hp) (a : Addr) : Hp := fun b => if b = a then none else H b
theorem less_ne {H : Hp} {a b : Addr} (h : b ≠ a) : less H a b = H b := if_neg h
abbrev PF := List D → List D → Res (D × List D)
theorem RO.pot {K : PySem.W.Frag} {R0 H0 R H R' H' : Hp} {σ : SS} {τ : L2.St} {i : Nat} {a : Addr} {c c' : List D} {xs : List V} (I : RO K R0 H0 R H σ τ) (hc : σ[i]? = some (some (.ow (.list c)))) (ht : τ[i]? = some (some (.ref a)))
    (e : Ext R (less H a) R' H') (hR : R' a = none) (hH : H' a = some (.lst xs)) (hx : RpA K R' xs c') : RO K R0 H0 R' H' (σ.set i (some (.ow (.list c')))) τ := by
  obtain ⟨a', q1, q2, q3, q4⟩ := I.ow i _ hc
  rw [ht] at q1; cases q1
  have hl : i < σ.length := (List.getElem?_eq_some_iff.mp hc).1
  refine ⟨⟨I.ext.rr.trans e.rr, e.sub, fun b o h => ?_, fun b o h => ?_⟩, fun j d h => ?_, fun j d h => ?_, fun j k d' d b z1 z2 z3 z4 => ?_, by rw [List.length_set]; exact I.len⟩
  · have nb : b ≠ a := fun z => by rw [z, q3] at h; cases h
    exact e.hh _ _ (by rw [less_ne nb]; exact I.ext.hh _ _ h)
  · rcases e.new b o h with z | z | z
    · exact I.ext.new b o z
    · by_cases nb : b = a
      · rw [nb, hR] at h; cases h
      · rw [less_ne nb] at z; exact .inr (.inl (I.ext.hh.free z))
    · exact .inr (.inr z)
  · by_cases hj : i = j
    · subst hj; rw [List.getElem?_set_self hl] at h; cases h
    · rw [List.getElem?_set_ne hj] at h
      obtain ⟨v, y1, y2⟩ := I.sh j d h
      exact ⟨v, y1, y2.mono e.rr⟩
  · by_cases hj : i = j
    · subst hj; rw [List.getElem?_set_self hl] at h; cases h
      exact ⟨a, ht, hR, q3, xs, hH, hx⟩
    · rw [List.getElem?_set_ne hj] at h
      obtain ⟨b, r1, r2, r3, r4⟩ := I.ow j d h
      have nb : b ≠ a := fun z => by subst z; exact hj (I.ne i j _ d b hc h ht r1)
      have keep : ∀ o, H b = some o → H' b = some o := fun o y => e.hh _ _ (by rw [less_ne nb]; exact y)
      obtain ⟨o', z1, z2, z3⟩ := r4.some
      refine ⟨b, r1, ?_, r3, ?_⟩
      · cases q : R' b with
        | none => rfl
        | some o =>
          rcases e.new b o q with z | z | ⟨ys, z⟩
          · rw [r2] at z; cases z
          · rw [less_ne nb, z1] at z; cases z
          · have w1 := keep _ z1
            rw [e.sub _ _ q] at w1; cases w1
            exact absurd z (z2 ys)
      · cases d with
        | list ds =>
          obtain ⟨vs, y1, y2⟩ := r4
          exact ⟨vs, keep _ y1, y2.mono e.rr⟩
        | dict kvs =>
          obtain ⟨vs, y1, y2⟩ := r4
          exact ⟨vs, keep _ y1, y2.mono e.rr⟩
        | _ => exact r4.elim
  · have back : ∀ m (x : D), (σ.set i (some (Slot.ow (.list c'))))[m]? = some (some (Slot.ow x)) → ∃ y, σ[m]? = some (some (Slot.ow y)) := fun m x h => by
      by_cases hm : i = m
      · subst hm; exact ⟨_, hc⟩
      · rw [List.getElem?_set_ne hm] at h; exact ⟨x, h⟩
    obtain ⟨y1, w1⟩ := back _ _ z1
    obtain ⟨y2, w2⟩ := back _ _ z2
    exact I.ne j k y1 y2 b w1 w2 z3 z4
def potK (i : Nat) (σ : SS) (F : List D → Res (D × List D)) : XR D := match σ[i]? with
  | some (some (.ow (.list c))) => match F c with
    | .ok (d, c') => .ok d (σ.set i (some (.ow (.list c'))))
    | _ => .stuck
  | _ => .stuck
def ownX {α : Type} (i : Nat) (σ : SS) (k : XR α) : XR α := match σ[i]? with
  | some (some (.ow (.list _))) => k
  | _ => .stuck
def xPot (i : Nat) (F : PF) (g : SS → XR (List D)) : SS → XR D := fun σ => ownX i σ ((g σ).bind fun ds σ => potK i σ fun c => F c ds)
section
variable {X : Cx} {E : WX} {e : Expr} {es : List Expr} {ga : SS → XR (List D)} {pos p1 np : Pos} {k : Nat} {fa : Addr} {fd : FuncData} {ps : List Str} {F : PF} {x y : Str}
end
end E3
namespace E3
open PySem PySem.Spec PyProof.Rows L2
def Fr (ps : List Nat) (τ0 τ : L2.St) : Prop := ∀ p ∈ ps, τ[p]? = τ0[p]?
inductive RK where
  | dat
  | new
  | pot (p : Nat)
def RK.at (K : PySem.W.Frag) (R0 H0 : Hp) (τ0 : L2.St) (σ : SS) (d : D) (v : V) (R H : Hp) (τ : L2.St) : RK → Prop
  | .dat => Ext R0 H0 R H ∧ Rp K R v d
  | .new => ∃ a, v = .ref a ∧ Ext R0 H0 R H ∧ R a = none ∧ H0 a = none ∧ Own K R H a d
  | .pot p => RO K R0 H0 R H σ τ ∧ τ[p]? = τ0[p]? ∧ Rp K R v d
theorem RK.outof {K : PySem.W.Frag} {R0 H0 R1 H1 : Hp} {τ0 : L2.St} {σ : SS} {d : D} {v : V} {R H : Hp} {τ : L2.St} (e1 : Ext R0 H0 R1 H1) : ∀ {k : RK}, k.at K R1 (un H0 R1) τ0 σ d v R H τ → k.at K R0 H0 τ0 σ d v R H τ
  | .dat, ⟨h1, h2⟩ => ⟨e1.outof h1, h2⟩
  | .new, ⟨a, h1, h2, h3, h4, h5⟩ => ⟨a, h1, e1.outof h2, h3, (un_none.mp h4).1, h5⟩
  | .pot p, ⟨h1, h2, h3⟩ => ⟨h1.outof e1, h2, h3⟩
def QPost (X : Cx) (E : WX) (ps : List Nat) (rk : RK) (τ0 : L2.St) (R0 H0 : Hp) (Dn : Ends) : SR → Prop
  | .ok .nx σ => ∀ R H τ, RO X.K R0 H0 R H σ τ → Fr ps τ0 τ → Dn.nx τ H
  | .ok .bk σ => ∀ R H τ, RO X.K R0 H0 R H σ τ → Fr ps τ0 τ → Dn.bk τ H
  | .ok .ct σ => ∀ R H τ, RO X.K R0 H0 R H σ τ → Fr ps τ0 τ → Dn.ct τ H
  | .ok (.rt d) σ => ∀ v R H τ, rk.at X.K R0 H0 τ0 σ d v R H τ → Dn.rt v H
  | .exc x σ => ∀ c dx R H τ, RO X.K R0 H0 R H σ τ → ExL X.K X.mg H0 x c dx H → E c dx τ H
  | .stuck => False
structure DQ1 (X : Cx) (E : WX) (ps : List Nat) (rk : RK) (st : Stmt) (g : SF) : Prop where
  run : ∃ t : TS, PS X st t ∧ ∀ (R0 H0 : Hp) (τ0 : L2.St) (σ : SS) (τ : L2.St) (R H : Hp) (Dn : Ends), RO X.K R0 H0 R H σ τ → Fr ps τ0 τ → QPost X E ps rk τ0 R0 H0 Dn (g σ) → t Dn τ H
structure DQs (X : Cx) (E : WX) (ps : List Nat) (rk : RK) (st : List Stmt) (g : SF) : Prop where
  run : ∃ t : TS, PSs X st t ∧ ∀ (R0 H0 : Hp) (τ0 : L2.St) (σ : SS) (τ : L2.St) (R H : Hp) (Dn : Ends), RO X.K R0 H0 R H σ τ → Fr ps τ0 τ → QPost X E ps rk τ0 R0 H0 Dn (g σ) → t Dn τ H
section
variable {X : Cx} {E : WX} {ps : List Nat} {rk : RK} {st : Stmt} {sts : List Stmt} {e a b : Expr} {g h : SF} {pos pos' : Pos} {R0 H0 R H : Hp} {τ0 τ : L2.St} {σ : SS} {Dn : Ends}
theorem Fr.set {i : Nat} {x : Option V} (h : Fr ps τ0 τ) (hi : i ∉ ps) : Fr ps τ0 (τ.set i x) := fun p hp => by
  rw [List.getElem?_set_ne (fun z : i = p => hi (by rw [z]; exact hp))]; exact h p hp
def qRet (f : SS → XR D) : SF := fun σ => thenX (f σ) fun d σ => .ok (.rt d) σ
def qIf (p : SS → XR Bool) (g h : SF) : SF := fun σ => thenX (p σ) fun b σ => if b then g σ else h σ
variable {x y : Str} {i : Nat}
def qSet (i : Nat) (f : SS → XR D) : SF := fun σ => thenX (f σ) fun d σ => .ok .nx (σ.set i (some (.sh d)))
def qAsg (p : GF) (f : SS → XR D) : SF := fun σ => thenX (f σ) fun d σ => optK (p d σ)
def gStore (i : Nat) (k : Int) : GF := fun d σ => match σ[i]? with
  | some (some (.ow (.list c))) => (ixN c.length k).map fun n => σ.set i (some (.ow (.list (c.set n d))))
  | _ => none
variable {i' value : Expr} {np : Pos}
variable {name : Str} {id : String} {apos : Pos} {m : MF} {es : List Expr} {ga : SS → XR (List D)}
variable {tg iter : Expr} {pt : GF} {ix : List Nat} {gb : SF} {body : List Stmt}
def qForR (it : SS → XR (List D)) (p : GF) (body : SF) : SF := fun σ => thenX ((it σ).bind fun ds σ => .of σ (rng1 ds)) fun ds σ => forS p body ds σ
def qFor (f : SS → XR D) (p : GF) (body : SF) : SF := fun σ => thenX ((f σ).bind fun d σ => .of σ (seqOf d)) fun ds σ => forS p body ds σ
end
section
variable {P : Program} {w : World} {K : PySem.W.Frag} {mg : Str → Option Value} {base : Heap}
def endN : SR → Res D
  | .ok (.rt d) _ => .ok d
  | .exc e _ => .exc e
  | _ => .stuck
def fnN (N n : Nat) (g : SF) : List D → Res D := fun ds => if ds.length = n then endN (g (startF N ds)) else .stuck
def spN (K : PySem.W.Frag) (mg : Str → Option Value) (n : Nat) (F : List D → Res D) : Sp := fun vs H Q Ex =>
  vs.length = n ∧ ∃ R ds, Same R H ∧ RpA K R vs ds ∧ PostN K mg Ex R H Q (F ds)
abbrev FnN (P : Program) (w : World) (K : PySem.W.Frag) (mg : Str → Option Value) (base : Heap) (k : Nat) (f : Addr) (fd : FuncData) (ps : List Str) (F : List D → Res D) : Prop :=
  FnOk P w K mg base (L2.CX P w) k f fd ps (spN K mg ps.length F)
def startP (N : Nat) (c : List D) (ds : List D) : SS := some (.ow (.list c)) :: (ds.map (fun d => some (.sh d)) ++ List.replicate (N - (ds.length + 1)) none)
def endP : SR → Res (D × List D)
  | .ok (.rt d) σ => match σ[(0 : Nat)]? with
    | some (some (.ow (.list c))) => .ok (d, c)
    | _ => .stuck
  | _ => .stuck
def fnP (N n : Nat) (g : SF) : PF := fun c ds => if ds.length + 1 = n then endP (g (startP N c ds)) else .stuck
end
section
variable {X : Cx} {E : WX} {k : Nat} {f : Addr} {fd : FuncData} {ps : List Str} {F : List D → Res D} {x : Str} {p pos : Pos} {e : Expr} {es : List Expr} {ga : DS → Res (List D)}
theorem FnN.dat {P : Program} {w : World} {K : PySem.W.Frag} {mg : Str → Option Value} {base : Heap} {n : Nat} {f : Addr} {fd : FuncData} {ps : List Str} {F : List D → Res D} (G : FnN P w K mg base n f fd ps F) : FnD P w K mg base n f fd ps F :=
  FnOk.imp G fun vs H Q Ex ⟨h1, R, ds, h2, h3, h4⟩ => ⟨h1, R, ds, h2, h3, h4.toN⟩
end
end E3
namespace E3
open PySem PySem.Spec PyProof.Rows L2
section
variable {X : Cx} {tg e : Expr} {td : TE}
end
theorem RpK.nth {K : PySem.W.Frag} {R : Hp} : ∀ {ks : List (List Key × V)} {kvs : List (D × D)} {i : Nat} {d : D}, RpK K R ks kvs → (kvs.map (·.1))[i]? = some d → ∃ ns : List Int, d = .tuple (ns.map .int) ∧ ∃ v, ks[i]? = some (ns.map Sum.inl, v)
  | _, _, _, _, .nil, h => by simp at h
  | _, _, 0, _, .cons (k := k) (v := v) _ _, h => by simp at h; exact ⟨k, h.symm, v, rfl⟩
  | _, _, i + 1, _, .cons _ r, h => by
    obtain ⟨ns, e, v, q⟩ := RpK.nth (i := i) r (by simpa using h)
    exact ⟨ns, e, v, by simpa using q⟩
section
variable {X : Cx} {E : WX} {tg e : Expr} {f : DS → Res D}
end
section
variable {X : Cx} {E : WX} {ps : List Nat} {rk : RK} {tg iter : Expr} {pt : GF} {ix : List Nat} {gb : SF} {body : List Stmt} {pos np : Pos} {x : Str}
end
end E3
namespace E3
open PySem PySem.Spec PyProof.Rows L2
section
variable {X : Cx} {pins : List (Addr × Obj)} {σ : L2.St} {H : Hp} {s : Shared}
theorem track {a C : Addr} {d : Option Addr} {oe : Obj} {vs : Array Value} (I : Inv X pins σ H s) (there : s.heap.get? a = some oe) (is : Zc (.ref C) d oe) (rec : oe.data = .fields vs) (un : H a = none) (nl : a ≠ X.env.locals)
    (late : X.s_0.heap.get? a = none) (apart : ∀ p ∈ X.pn ++ pins, p.1 ≠ a) : Inv X pins σ (upd H a (.ext (ErO C a d))) s := by
  have old : ∀ b o, X.s_0.heap.get? b = some o → b ≠ a := fun b o e z => by
    rw [z, late] at e
    cases e
  have was : ∀ b u, H b = some u → b ≠ a := fun b u e z => by
    rw [z, un] at e
    cases e
  have up : ∀ b u, H b = some u → upd H a (.ext (ErO C a d)) b = some u := fun b u e => by
    rw [upd_ne (was b u e)]
    exact e
  refine ⟨I.ok, I.os, I.bare, ⟨I.base.keep, I.base.slot, fun b o e n hx => ?_, I.base.there, fun b xs e => up b _ (I.base.tups b xs e), fun b o xs e => up b _ (I.base.frzs b o xs e), fun b ps e => ?_⟩, I.loc, I.cell, ?_, fun x c e => ?_, fun p hp => ?_, fun b u e => ?_, I.len⟩
  · rw [upd_ne (old b o e)]
    exact I.base.free b o e n hx
  · obtain ⟨more, z⟩ := I.base.tbls b ps e
    exact ⟨more, up b _ z⟩
  · rw [upd_ne (Ne.symm nl)]
    exact I.free
  · have ne : c ≠ a := fun z => by
      obtain ⟨vc, oc, hoc, hdc⟩ := I.cell x c e
      rw [z, there] at hoc
      cases hoc
      rw [rec] at hdc
      cases hdc
    rw [upd_ne ne]
    exact I.freeC x c e
  · obtain ⟨p1, p2, p3⟩ := I.pin p hp
    exact ⟨p1, by rw [upd_ne (apart p hp)]; exact p2, p3⟩
  · by_cases hb : b = a
    · subst hb
      rw [upd_same] at e
      cases e
      exact ⟨⟨oe, vs, there, is, rec⟩, ⟨oe, there⟩, fun h1 h2 ⟨o1, v1, q1, q2, q3⟩ k => ⟨o1, v1, k _ q1, q2, q3⟩⟩
    · rw [upd_ne hb] at e
      exact (I.hok b u e).stay (fun _ _ _ q => q) (fun c q => up c _ q) fun c xs q => up c _ q
theorem intoSuite (I : Inv X pins σ H s) (a : Addr) : Inv (X.suite a (X.pn ++ pins)) [] σ H s :=
  ⟨I.ok.suite _ _, I.os, I.bare, I.base, I.loc, I.cell, I.free, I.freeC, fun p hp => I.pin p (by rw [List.append_nil] at hp; exact hp), I.hok, I.len⟩
theorem outofSuite {a : Addr} (I : Inv (X.suite a (X.pn ++ pins)) [] σ H s) (ok : X.Ok) : Inv X pins σ H s :=
  ⟨ok, I.os, I.bare, I.base, I.loc, I.cell, I.free, I.freeC, fun p hp => I.pin p (by rw [List.append_nil]; exact hp), I.hok, I.len⟩
end
structure Clause where
  c : Value
  i : Option Nat
  ts : Addr → Addr → Option Addr → TS
def putE : Option Nat → Option V → L2.St → L2.St
  | none, _, σ => σ
  | some i, v, σ => σ.set i v
def goneE (i : Option Nat) (D : Ends) : Ends := { nx := fun σ H => D.nx (putE i none σ) H, rt := D.rt, bk := fun σ H => D.bk (putE i none σ) H, ct := fun σ H => D.ct (putE i none σ) H }
def wCl (K : PySem.W.Frag) (Wout : WX) (D : Ends) : List Clause → WX
  | [], cls, d, σ, H => Wout cls d σ H
  | k :: r, cls, d, σ, H => ∃ b, PySem.W.exmOne K cls k.c = some b ∧ (b = true → ∃ C, cls = .ref C ∧ ∀ a, H a = none → k.ts a C d (goneE k.i D) (putE k.i (some (.ref a)) σ) (upd H a (.ext (ErO C a d)))) ∧ (b = false → wCl K Wout D r cls d σ H)
inductive ClOk (X : Cx) : List ExceptHandler → List Clause → Prop
  | nil : ClOk X [] []
  | nm {x n : Str} {k : Clause} {i : Nat} {b0 : Stmt} {suite : List Stmt} {np pos : Pos} {hds : List ExceptHandler} {ks : List Clause} : Names X x k.c → k.i = some i → X.N[i]? = some n → X.env.kindOf n = some .local →
      (∀ a C d pn, PSs (X.suite a pn) (b0 :: suite) (k.ts a C d)) → ClOk X hds ks → ClOk X (.ExceptHandler (some (.Name x np)) (some n) (b0 :: suite) pos :: hds) (k :: ks)
  | un {x : Str} {k : Clause} {b0 : Stmt} {suite : List Stmt} {np pos : Pos} {hds : List ExceptHandler} {ks : List Clause} : Names X x k.c → k.i = none →
      (∀ a C d pn, PSs (X.suite a pn) (b0 :: suite) (k.ts a C d)) → ClOk X hds ks → ClOk X (.ExceptHandler (some (.Name x np)) none (b0 :: suite) pos :: hds) (k :: ks)
section
variable {X : Cx} {pins : List (Addr × Obj)} {σ : L2.St} {H : Hp} {D : Ends}
theorem SP_out {a : Addr} {f : Flow} {s : Shared} (ok : X.Ok) (h : SP (X.suite a (X.pn ++ pins)) [] (goneE none D) f s) : SP X pins D f s := by
  cases f with
  | next => obtain ⟨σ6, H6, S6, q6⟩ := h; exact ⟨_, _, outofSuite S6 ok, q6⟩
  | brk => obtain ⟨σ6, H6, S6, q6⟩ := h; exact ⟨_, _, outofSuite S6 ok, q6⟩
  | cont => obtain ⟨σ6, H6, S6, q6⟩ := h; exact ⟨_, _, outofSuite S6 ok, q6⟩
  | ret u => obtain ⟨v6, σ6, H6, S6, r6, q6⟩ := h; exact ⟨_, _, _, outofSuite S6 ok, r6, q6⟩
theorem clauses {hds : List ExceptHandler} {ks : List Clause} (hN : X.N.Nodup) (hs : X.stack = X.env :: X.outer) (hf : X.env.frame = some X.env.locals) (ex0 : X.ex = []) {Wout : WX} (tk : Takes X Wout) (hk : ClOk X hds ks)
    {a : Addr} {B h3 : Heap} {sI s' : Shared} {cls : Value} {d : Option Addr} (J : Inv X pins σ H sI) (nb : ∀ b o, sI.heap.get? b = some o → b ∉ frs X.stack → B.get? b = some o) (up : sI.heap.UpToSlots h3)
    (flyF : HandSPX.FlyingZ B (X.env :: X.outer) a (Zc cls d) h3) (na : H a = none) (os : s'.os = sI.os) (ag : AllBare s'.gens) :
    wCl X.K Wout D ks cls d σ H → wpAny (model X.prog X.w) X.A (handleBy (.ref a) X.env hds) (SP X pins D) X.xe { s' with heap := h3 } := by
  have ok := J.ok
  have J3 : Inv X pins σ H { s' with heap := h3 } := J.landed nb flyF.1 up os ag
  obtain ⟨oeF, vsF, heF, hzF, hdF⟩ := flyF.there
  have nfr : a ∉ frs (X.env :: X.outer) := fun hm => by
    obtain ⟨_, o', e', hnf⟩ := flyF.2.2.1.mem hm
    rw [heF] at e'
    cases e'
    exact hnf _ hdF
  have notLoc : a ≠ X.env.locals := fun z => nfr (List.mem_filterMap.mpr ⟨X.env, List.mem_cons_self, by rw [hf, z]⟩)
  have notOut : a ∉ X.fs := fun hm =>
    have ⟨ev, hev, qv⟩ := List.mem_filterMap.mp hm
    nfr (List.mem_filterMap.mpr ⟨ev, List.mem_cons_of_mem _ hev, qv⟩)
  have noB : B.get? a = none := flyF.2.1
  have late : X.s_0.heap.get? a = none := by
    cases q : X.s_0.heap.get? a with
    | none => rfl
    | some o =>
      obtain ⟨o', z⟩ := J.base.there a o q (by rw [ex0]; exact fun z => nomatch z)
      have w := nb a o' z (by rw [hs]; exact nfr)
      rw [noB] at w
      cases w
  have apart : ∀ p ∈ X.pn ++ pins, p.1 ≠ a := fun p hp z => by
    obtain ⟨p1, p2, p3, p4, _⟩ := J.pin p hp
    have nst : p.1 ∉ frs X.stack := by rw [z, hs]; exact nfr
    have w := nb p.1 p.2 p1 nst
    rw [z, noB] at w
    cases w
  have SuF := J3.suite heF hdF na notLoc notOut
  have tyF : PySem.W.Looks (model X.prog X.w) h3 (typeOf (.ref a)) cls := fun A Q E s k q => wpAny_typeOf_ref (k _ _ heF) (by rw [hzF.1]; exact q)
  have test : ∀ {x : Str} {c : Value} {np : Pos}, Names X x c → ∀ {Q : Value → Shared → Prop} {E : Value → Shared → Prop}, Q c { s' with heap := h3 } → wpAny (model X.prog X.w) (X.A.mark (some (.ref a))) (eval (.Name x np) X.env) Q E { s' with heap := h3 } := fun {x c np} hc {Q E} q => by
    obtain ⟨hg, dbgF, hm | ⟨hm, hv, nnF⟩⟩ := hc
    · exact ld_glob (X := X.suite a ((a, oeF) :: (X.pn ++ pins))) SuF hg hm q dbgF
    · exact ld_blt (X := X.suite a ((a, oeF) :: (X.pn ++ pins))) SuF hg hm hv q nnF dbgF
  have into : ∀ {C : Addr}, cls = .ref C → ∀ {h4 : Heap}, HandSPX.FlyingZ B (X.env :: X.outer) a (Zc cls d) h4 → h3.UpToSlots h4 → Inv (X.suite a (X.pn ++ pins)) [] σ (upd H a (.ext (ErO C a d))) { s' with heap := h4 } := fun {C} e h4 flyG upG => by
    obtain ⟨oeG, vsG, heG, hzG, hdG⟩ := flyG.there
    have J4 : Inv X pins σ H { s' with heap := h4 } := J.landed nb flyG.1 (up.trans upG) os ag
    exact intoSuite (track J4 heG (by rw [e] at hzG; exact hzG) hdG na notLoc late apart) a
  induction hk with
  | nil =>
    intro w
    refine wpAny_handleBy_nil ?_
    obtain ⟨_, _, _, oeX, vsX, T, oT, tsX, heX, hzX, hdX, h1X, hrX⟩ := id flyF
    unfold PySem.passOn
    refine wpAny_bind (wpAny_field heX hdX h1X ?_)
    rw [if_neg (show ¬ (Value.ref T == Value.none) = true from by simp)]
    have goOn : wpAny (model X.prog X.w) X.A (setFlight (.ref a) X.env.frame) (fun _ s4 => wpAny (model X.prog X.w) X.A (throw (.ref a) : Sem Flow) (SP X pins D) X.xe s4) X.xe { s' with heap := h3 } := by
      rw [hf]
      refine HandSPX.setFlight_upZ flyF fun h4 heldG upG => wpAny_throw (tk _ _ ?_)
      exact ⟨a, B, sI, pins, σ, H, cls, d, rfl, J, nb, up.trans upG, .inr (.inr (by rw [hs]; exact heldG)), na, os, ag, w⟩
    first
      | exact wpAny_bind goOn
      | exact wpAny_bind (wpAny_pure <| wpAny_bind goOn)
  | @nm x n k i b0 suite np pos hds ks hc hi hn hln hsu _ ih =>
    rintro ⟨b, oneF, hyes, hno⟩
    have locF : Loc X.env.scope n := .inl hln
    refine wpAny_handleBy_cons (codeAny_handlers_test ?_) (fun qz => nomatch qz)
    have mtF := PySem.W.exm_one (M := model X.prog X.w) (J3.kIn) tyF oneF
    refine test hc (mtF.here ?_)
    cases b with
    | false => exact ih (hno rfl)
    | true =>
      obtain ⟨C, ec, q⟩ := hyes rfl
      have q' := q a na
      rw [hi] at q'
      refine codeAny_handlers_suite_as (HandSPX.lands_againZ flyF fun h4 flyG upG => ?_)
      refine store_ok (X := X.suite a (X.pn ++ pins)) (v := .ref a) (into ec flyG upG) hN hn locF rfl (fun s5 S5 => ?_) (.inr hln)
      refine wpAny_mono ((hsu a C d (X.pn ++ pins)).run [] s5 _ _ _ S5 q') (fun f s6 hsp => ?_) (fun _ _ z => False.elim z)
      have end_ : ∀ {σ6 : L2.St} {H6 : Hp} {Q : Shared → Prop}, Inv (X.suite a (X.pn ++ pins)) [] σ6 H6 s6 → (∀ s7, Inv X pins (σ6.set i none) H6 s7 → Q s7) →
          wpAny (model X.prog X.w) X.A (do bindName X.env n .none; unbindBehindTheSuite X.env n pos) (fun _ s7 => Q s7) X.xe s6 := fun {σ6 H6 Q} S6 hq => gone_ok (outofSuite S6 ok) hN hn hln hq
      cases f with
      | next => obtain ⟨σ6, H6, S6, q6⟩ := hsp; exact end_ S6 fun s7 J7 => ⟨_, _, J7, q6⟩
      | brk => obtain ⟨σ6, H6, S6, q6⟩ := hsp; exact end_ S6 fun s7 J7 => ⟨_, _, J7, q6⟩
      | cont => obtain ⟨σ6, H6, S6, q6⟩ := hsp; exact end_ S6 fun s7 J7 => ⟨_, _, J7, q6⟩
      | ret u => obtain ⟨v6, σ6, H6, S6, r6, q6⟩ := hsp; exact end_ S6 fun s7 J7 => ⟨_, _, _, J7, r6, q6⟩
  | @un x k b0 suite np pos hds ks hc hi hsu _ ih =>
    rintro ⟨b, oneF, hyes, hno⟩
    refine wpAny_handleBy_cons (codeAny_handlers_test ?_) (fun qz => nomatch qz)
    have mtF := PySem.W.exm_one (M := model X.prog X.w) (J3.kIn) tyF oneF
    refine test hc (mtF.here ?_)
    cases b with
    | false => exact ih (hno rfl)
    | true =>
      obtain ⟨C, ec, q⟩ := hyes rfl
      have q' := q a na
      rw [hi] at q'
      refine codeAny_handlers_suite (HandSPX.lands_againZ flyF fun h4 flyG upG => ?_)
      exact wpAny_mono ((hsu a C d (X.pn ++ pins)).run [] _ _ _ _ (into ec flyG upG) q') (fun f s6 hsp => SP_out ok hsp) (fun _ _ z => False.elim z)
theorem ps_tryC {body : List Stmt} {h0 : ExceptHandler} {hds : List ExceptHandler} {l : List Clause} {pos : Pos} {tb : WX → TS} {Wout : WX} (stk : X.stack = X.env :: X.outer) (fr : X.env.frame = some X.env.locals) (ex0 : X.ex = []) (nd : X.N.Nodup) (tk : Takes X Wout)
    (hb : ∀ (W : WX) (pn : List (Addr × Obj)) (xe : Value → Shared → Prop), Takes (X.tr pn xe) W → PassesOwn (model X.prog X.w) X.A X.env xe → PSs (X.tr pn xe) body (tb W)) (hh : ClOk X (h0 :: hds) l) :
    PS X (.Try body (h0 :: hds) [] [] pos) fun D σ H => tb (wCl X.K Wout D l) D σ H := by
  refine ⟨fun pins s σ H D I hyp => ?_⟩
  have ok := I.ok
  have hfr : X.A.frames = some (X.env :: X.outer) := by rw [ok.frames, stk]
  refine wpAny_Try_except ?_
  refine wpAny_mono ((hb (wCl X.K Wout D l) (X.pn ++ pins) (fun e s₁ => wpAny (model X.prog X.w) X.A (noteFrame e X.env) (fun _ s₂ => wpAny (model X.prog X.w) X.A (setFlight e none) (fun _ s₃ =>
    wpAny (model X.prog X.w) X.A (handleBy e X.env (h0 :: hds)) (SP X pins D) X.xe s₃) X.xe s₂) X.xe s₁) (fun u s' xx => ?_) PassesOwn.looking).run [] s σ H D (I.toTry _) hyp) (fun f s1 hsp => ?_) (fun e s1 he => he)
  · obtain ⟨a, B, sI, pins', σ', H', cls, d, rfl, Jt, nb, up, skyF, na, os, ag, w⟩ := xx
    have J : Inv X pins σ' H' sI := Jt.ofTry ok
    have skyF' : Sky B (X.env :: X.outer) a (Zc cls d) X.env.locals s'.heap := by rw [← stk]; exact skyF
    show wpAny (model X.prog X.w) X.A (noteFrame (Value.ref a) X.env) _ _ _
    refine Sky.land Zc.steady hfr fr skyF' fun h3 flyF up3 => ?_
    exact clauses nd stk fr ex0 tk hh J nb (up.trans up3) flyF na os ag w
  · cases f with
    | next =>
      obtain ⟨σ', H', Jt, q⟩ := hsp
      exact wpAny_execs_nil ⟨σ', H', Jt.ofTry ok, q⟩
    | brk =>
      obtain ⟨σ', H', Jt, q⟩ := hsp
      exact ⟨_, _, Jt.ofTry ok, q⟩
    | cont =>
      obtain ⟨σ', H', Jt, q⟩ := hsp
      exact ⟨_, _, Jt.ofTry ok, q⟩
    | ret u =>
      obtain ⟨_, _, _, Jt, r, q⟩ := hsp
      exact ⟨_, _, _, Jt.ofTry ok, r, q⟩
end
end E3
namespace E3
open PySem PySem.Spec PyProof.Rows L2
def sRaise (e : Exn) : SF := fun σ => .exc e σ
section
variable {X : Cx} {E : WX} {x m : Str} {j : Nat} {p p2 pos pos' : Pos} {C : Addr} {bmB : List Value} {B newId initId : String}
theorem ds_raise (F : ExcBaseFacts B newId initId bmB) (q : PySem.W.excIn X.K C bmB newId = true) (gC : X.mg x = some (.ref C)) (kC : PySem.W.keepIn X.K (.ref C) = true) (r : Raises X (.ref C)) (hg : Gl X x) (hc : X.calm = true) (tk : Takes X E)
    (hdb : (x == ("__debug__" : Str)) = false := by decide) : DS1 X E (.Raise (some (.Call (.Name x p) [.Constant (.str m) j p2] [] pos)) none pos') (sRaise ⟨x, none⟩) :=
  ⟨_, ps_raise hc tk (pmk_own F q gC kC r hg hdb), fun R0 H0 σ τ R H Dn I z => z (.ref C) none R H τ I ⟨⟨gC, rfl⟩, fun _ w => nomatch w⟩⟩
def TSF (X : Cx) (E : WX) (g : SF) : TS := fun Dn τ H => ∃ R0 H0 σ R, RO X.K R0 H0 R H σ τ ∧ SPost X E R0 H0 Dn (g σ)
theorem DSs.tsf {X : Cx} {E : WX} {st : List Stmt} {g : SF} (h : DSs X E st g) : PSs X st (TSF X E g) := by
  obtain ⟨t, h1, h2⟩ := h
  exact ⟨fun pins s σ H D I z => by
    obtain ⟨R0, H0, σ', R, J, k⟩ := z
    exact h1.run pins s σ H D I (h2 R0 H0 σ' σ R H D J k)⟩
end
section
variable {K : PySem.W.Frag} {R0 H0 R H : Hp} {σ : SS} {τ : L2.St}
theorem RO.gone (I : RO K R0 H0 R H σ τ) (i : Nat) : RO K R0 H0 R H (σ.set i none) (τ.set i none) where
  ext := I.ext
  sh := fun j e h => by
    by_cases hj : i = j
    · subst hj
      by_cases hl : i < σ.length
      · rw [List.getElem?_set_self hl] at h
        cases h
      · rw [List.getElem?_eq_none (by rw [List.length_set]; omega)] at h
        cases h
    · rw [List.getElem?_set_ne hj] at h ⊢
      exact I.sh j e h
  ow := fun j e h => by
    by_cases hj : i = j
    · subst hj
      by_cases hl : i < σ.length
      · rw [List.getElem?_set_self hl] at h
        cases h
      · rw [List.getElem?_eq_none (by rw [List.length_set]; omega)] at h
        cases h
    · rw [List.getElem?_set_ne hj] at h ⊢
      exact I.ow j e h
  ne := fun j k d' e a h1 h2 h3 h4 => by
    have no : ∀ m (x : D), (σ.set i none)[m]? = some (some (Slot.ow x)) → i ≠ m := fun m x h hm => by
      subst hm
      by_cases hl : i < σ.length
      · rw [List.getElem?_set_self hl] at h
        cases h
      · rw [List.getElem?_eq_none (by rw [List.length_set]; omega)] at h
        cases h
    have n1 := no _ _ h1
    have n2 := no _ _ h2
    rw [List.getElem?_set_ne n1] at h1 h3
    rw [List.getElem?_set_ne n2] at h2 h4
    exact I.ne j k d' e a h1 h2 h3 h4
  len := by rw [List.length_set, List.length_set]; exact I.len
theorem RO.addX (I : RO K R0 H0 R H σ τ) {b : Addr} {fs : List (Str × V)} (hb : H b = some (.xd fs)) (h0 : H0 b = none) : ∃ R', Same R R' ∧ R' b = some (.xd fs) ∧ RO K R0 H0 R' H σ τ := by
  cases q : R b with
  | some o =>
    have e := I.ext.sub _ _ q
    rw [hb] at e
    cases e
    exact ⟨R, Same.refl _, q, I⟩
  | none =>
    have s1 : Same R (upd R b (.xd fs)) := same_new q
    refine ⟨_, s1, upd_same, ⟨I.ext.rr.trans s1, fun c o e => ?_, I.ext.hh, fun c o e => ?_⟩, fun i d e => ?_, fun i d e => ?_, I.ne, I.len⟩
    · by_cases hc : c = b
      · subst hc
        rw [upd_same] at e
        cases e
        exact hb
      · rw [upd_ne hc] at e
        exact I.ext.sub _ _ e
    · by_cases hc : c = b
      · subst hc
        exact .inr (.inl h0)
      · rw [upd_ne hc] at e
        exact I.ext.new _ _ e
    · obtain ⟨v, z1, z2⟩ := I.sh i d e
      exact ⟨v, z1, z2.mono s1⟩
    · obtain ⟨a, z1, z2, z3, z4⟩ := I.ow i d e
      refine ⟨a, z1, ?_, z3, z4.mono s1 (Same.refl _)⟩
      have ne : a ≠ b := fun z => by
        subst z
        cases d with
        | list ds =>
          obtain ⟨vs, w, _⟩ := z4
          rw [hb] at w
          cases w
        | dict ds =>
          obtain ⟨vs, w, _⟩ := z4
          rw [hb] at w
          cases w
        | _ => exact z4.elim
      rw [upd_ne ne]
      exact z2
end
def fldD : Option (Str × D) → List (D × D)
  | none => []
  | some (f, d) => [(.str f, d)]
def errD (x : Exn) : D := .dict ((.none, .str x.cls) :: fldD x.fld)
def fldOk : Option (Str × D) → Bool
  | none => true
  | some (_, .int _) => true
  | _ => false
structure ClS where
  cat : Str → Option Bool
  i : Option Nat
  g : SF
def putSl : Option Nat → Option Slot → SS → SS
  | none, _, σ => σ
  | some i, v, σ => σ.set i v
def goneS (i : Option Nat) : SR → SR
  | .ok .nx σ => .ok .nx (putSl i none σ)
  | .ok .bk σ => .ok .bk (putSl i none σ)
  | .ok .ct σ => .ok .ct (putSl i none σ)
  | .ok (.rt d) σ => .ok (.rt d) σ
  | _ => .stuck
def runCl (x : Exn) (σ : SS) : List ClS → SR
  | [] => .exc x σ
  | k :: r => match k.cat x.cls with
    | some true => if fldOk x.fld then goneS k.i (k.g (putSl k.i (some (.sh (errD x))) σ)) else .stuck
    | some false => runCl x σ r
    | none => .stuck
def sTry (l : List ClS) (g : SF) : SF := fun σ => match g σ with
  | .exc x σ' => runCl x σ' l
  | r => r
def CatOk (X : Cx) (c : Value) (cat : Str → Option Bool) : Prop := ∀ y b, cat y = some b → ∃ C, PySem.W.nsIn X.K mainGlobals y = some (some (.ref C)) ∧ X.mg y = some (.ref C) ∧ PySem.W.exmOne X.K (.ref C) c = some b
inductive ClD (X : Cx) (E : WX) : List ExceptHandler → List ClS → Prop
  | nil : ClD X E [] []
  | nm {x n : Str} {c : Value} {cat : Str → Option Bool} {g : SF} (i0 : Nat) {b0 : Stmt} {suite : List Stmt} {np pos : Pos} {hds : List ExceptHandler} {l : List ClS} : Names X x c → CatOk X c cat → X.N[i0]? = some n → X.env.kindOf n = some .local →
      (∀ a pn, DSs (X.suite a pn) E (b0 :: suite) g) → ClD X E hds l → ClD X E (.ExceptHandler (some (.Name x np)) (some n) (b0 :: suite) pos :: hds) (⟨cat, some i0, g⟩ :: l)
  | un {x : Str} {c : Value} {cat : Str → Option Bool} {g : SF} {b0 : Stmt} {suite : List Stmt} {np pos : Pos} {hds : List ExceptHandler} {l : List ClS} : Names X x c → CatOk X c cat →
      (∀ a pn, DSs (X.suite a pn) E (b0 :: suite) g) → ClD X E hds l → ClD X E (.ExceptHandler (some (.Name x np)) none (b0 :: suite) pos :: hds) (⟨cat, none, g⟩ :: l)
section
variable {X : Cx} {E : WX} {R0 H0 R H : Hp} {σ : SS} {τ : L2.St}
theorem SPost_gone {i : Option Nat} {D : Ends} {r : SR} (h : SPost X E R0 H0 D (goneS i r)) : SPost X E R0 H0 (goneE i D) r := by
  cases r with
  | exc x σ => exact h.elim
  | stuck => exact h.elim
  | ok o σ =>
    have fin : ∀ {R H : Hp} {τ : L2.St}, RO X.K R0 H0 R H σ τ → RO X.K R0 H0 R H (putSl i none σ) (putE i none τ) := fun {R H τ} I => by
      cases i with
      | none => exact I
      | some i => exact I.gone i
    cases o with
    | nx => exact fun R H τ I => h R H _ (fin I)
    | bk => exact fun R H τ I => h R H _ (fin I)
    | ct => exact fun R H τ I => h R H _ (fin I)
    | rt d => exact h
theorem caught {x : Exn} {C : Addr} {dx : Option Addr} {i : Option Nat} (I : RO X.K R0 H0 R H σ τ) (e : ExL X.K X.mg H0 x (.ref C) dx H) (ns : PySem.W.nsIn X.K mainGlobals x.cls = some (some (.ref C))) (hf : fldOk x.fld = true) (a : Addr) (na : H a = none) :
    ∃ R', RO X.K R0 H0 R' (upd H a (.ext (ErO C a dx))) (putSl i (some (.sh (errD x))) σ) (putE i (some (.ref a)) τ) := by
  have I1 : RO X.K R0 H0 (upd R a (.ext (ErO C a dx))) (upd H a (.ext (ErO C a dx))) σ τ := I.step (Ext.alloc I.ext.sub na)
  have put : ∀ {R' : Hp}, RO X.K R0 H0 R' (upd H a (.ext (ErO C a dx))) σ τ → Rp X.K R' (.ref a) (errD x) → RO X.K R0 H0 R' (upd H a (.ext (ErO C a dx))) (putSl i (some (.sh (errD x))) σ) (putE i (some (.ref a)) τ) := fun {R'} J r => by
    cases i with
    | none => exact J
    | some i => exact J.put r
  obtain ⟨xc, xf⟩ := x
  cases xf with
  | none =>
    have ed : dx = none := e.er.2
    subst ed
    exact ⟨_, put I1 (.ob (.er ns upd_same) .nil)⟩
  | some p =>
    obtain ⟨f, d⟩ := p
    obtain ⟨b, v, ed, hb, rv⟩ := e.er.2
    subst ed
    cases d with
    | int n =>
      cases rv
      have nb : b ≠ a := fun z => by rw [z, na] at hb; cases hb
      obtain ⟨R', s1, h1, J⟩ := I1.addX (b := b) (fs := [(f, .int n)]) (by rw [upd_ne nb]; exact hb) (e.late b rfl)
      exact ⟨R', put J (.ob (.erf ns (s1 _ _ upd_same) h1) (.cons (.int n) .nil))⟩
    | _ => cases hf
theorem ClD.ok {hds : List ExceptHandler} {l : List ClS} (h : ClD X E hds l) : ∃ ks, ClOk X hds ks ∧
    ∀ {R0 H0 R H : Hp} {σ : SS} {τ : L2.St} {D : Ends} {x : Exn} {c : Value} {dx : Option Addr}, RO X.K R0 H0 R H σ τ → ExL X.K X.mg H0 x c dx H → SPost X E R0 H0 D (runCl x σ l) → wCl X.K E D ks c dx τ H := by
  have step : ∀ {cat : Str → Option Bool} {i : Option Nat} {g : SF} {cv : Value} {l : List ClS} {ks : List Clause}, CatOk X cv cat →
      (∀ {R0 H0 R H : Hp} {σ : SS} {τ : L2.St} {D : Ends} {x : Exn} {c : Value} {dx : Option Addr}, RO X.K R0 H0 R H σ τ → ExL X.K X.mg H0 x c dx H → SPost X E R0 H0 D (runCl x σ l) → wCl X.K E D ks c dx τ H) →
      ∀ {R0 H0 R H : Hp} {σ : SS} {τ : L2.St} {D : Ends} {x : Exn} {c : Value} {dx : Option Addr}, RO X.K R0 H0 R H σ τ → ExL X.K X.mg H0 x c dx H → SPost X E R0 H0 D (runCl x σ (⟨cat, i, g⟩ :: l)) →
        wCl X.K E D (⟨cv, i, fun _ _ _ => TSF X E g⟩ :: ks) c dx τ H := by
    intro cat i g cv l ks ca ih R0 H0 R H σ τ D x c dx I e q
    simp only [runCl] at q
    cases k : cat x.cls with
    | none => rw [k] at q; exact q.elim
    | some b =>
      obtain ⟨C, n1, n2, n3⟩ := ca _ _ k
      have ec : c = .ref C := by
        have := e.er.1
        rw [n2] at this
        exact (Option.some.inj this).symm
      subst ec
      rw [k] at q
      refine ⟨b, n3, fun hb => ⟨C, rfl, fun a na => ?_⟩, fun hb => ?_⟩
      · subst hb
        have q' : SPost X E R0 H0 D (if fldOk x.fld then goneS i (g (putSl i (some (.sh (errD x))) σ)) else .stuck) := q
        by_cases hf : fldOk x.fld = true
        · rw [if_pos hf] at q'
          obtain ⟨R', J⟩ := caught (i := i) I e n1 hf a na
          exact ⟨R0, H0, _, R', J, SPost_gone q'⟩
        · rw [if_neg hf] at q'; exact q'.elim
      · subst hb
        exact ih I e q
  induction h with
  | nil => exact ⟨[], .nil, fun I e q => q _ _ _ _ _ I e⟩
  | nm i0 hc ca hn hl hsu _ ih =>
    obtain ⟨ks, k1, k2⟩ := ih
    refine ⟨_, .nm (k := ⟨_, some i0, fun _ _ _ => TSF X E _⟩) hc rfl hn hl (fun a C d pn => (hsu a pn).tsf) k1, ?_⟩
    exact step ca k2
  | un hc ca hsu _ ih =>
    obtain ⟨ks, k1, k2⟩ := ih
    refine ⟨_, .un (k := ⟨_, none, fun _ _ _ => TSF X E _⟩) hc rfl (fun a C d pn => (hsu a pn).tsf) k1, ?_⟩
    exact step ca k2
theorem ds_try {body : List Stmt} {h0 : ExceptHandler} {hds : List ExceptHandler} {l : List ClS} {pos : Pos} {g : SF} (stk : X.stack = X.env :: X.outer) (fr : X.env.frame = some X.env.locals) (ex0 : X.ex = []) (nd : X.N.Nodup) (tk : Takes X E)
    (hb : ∀ (W : WX) (pn : List (Addr × Obj)) (xe : Value → Shared → Prop), Takes (X.tr pn xe) W → PassesOwn (model X.prog X.w) X.A X.env xe → DSs (X.tr pn xe) W body g) (hh : ClD X E (h0 :: hds) l) :
    DS1 X E (.Try body (h0 :: hds) [] [] pos) (sTry l g) := by
  obtain ⟨ks, k1, k2⟩ := hh.ok
  refine ⟨_, ps_tryC (tb := fun W => TSF X W g) stk fr ex0 nd tk (fun W pn xe t p => (hb W pn xe t p).tsf) k1, fun R0 H0 σ τ R H Dn I z => ?_⟩
  refine ⟨R0, H0, σ, R, I, ?_⟩
  unfold sTry at z
  cases e : g σ with
  | ok o σ' =>
    rw [e] at z
    cases o <;> exact z
  | stuck => rw [e] at z; exact z
  | exc y σ' =>
    rw [e] at z
    intro cv dx R1 H1 τ1 J ex
    exact k2 J ex z
end
end E3
namespace E3
open PySem PySem.Spec PyProof.Rows L2
def TyO (K : PySem.W.Frag) (H : Hp) (v : V) (t : Value) : Prop := TyX K H v t ∨ (∃ a C, v = .ref a ∧ t = .ref C ∧ H a = some (.ext (ErO C a none)) ∧ ExcC K C) ∨ ∃ a o kvs, v = .ref a ∧ t = .type "dict" ∧ H a = some (.frz o (.dT kvs))
section
variable {X : Cx} {E : WX} {Ex : XK} {pins : List (Addr × Obj)} {σ0 : L2.St} {H : Hp} {s : Shared}
theorem kit_ofO {x : V} {u t : Value} (I : Inv X pins σ0 H s) (rx : RelV x u) (ty : TyO X.K H x t) : ∃ P : Heap → Prop, PySem.W.KitX X.K u t P ∧ P s.heap ∧ u ≠ .builtin "__main__.__loader__#opaque" := by
  rcases ty with ty | ⟨a, C, rfl, rfl, hH, F⟩ | ⟨a, ob, kvs, rfl, rfl, hH⟩
  · exact kit_of I rx ty
  · have eu : u = Value.ref a := rx
    subst eu
    have ok : ObjOk X.prog X.w H s.heap a (.ext (ErO C a none)) := I.hok a _ hH
    obtain ⟨⟨⟨oc, od, oda, osl⟩, vs, hget, ⟨z1, z2⟩, z3⟩, _⟩ := ok
    dsimp only at z1 z2 z3
    subst z1 z2 z3
    exact ⟨_, PySem.W.handS_kitx_exc F.hg F.hk F.hs F.hd F.ha F.hn F.ht F.hm, ⟨hget, rfl, rfl, trivial⟩, fun z => nomatch z⟩
  · have eu : u = Value.ref a := rx
    subst eu
    have ok : ObjOk X.prog X.w H s.heap a (.frz ob (.dT kvs)) := I.hok a _ hH
    obtain ⟨_, _, _, _, _, oo, _, _, h1, h2, _⟩ := ok
    exact ⟨_, PySem.W.kitx_dict, ⟨oo, h1, h2.1⟩, fun z => nomatch z⟩
def rIsO (K : PySem.W.Frag) : List V → Hp → VK → Prop := fun xs H Q => ∃ (x c : V) (t u : Value) (b : Bool), xs = [x, c] ∧ ClsV c u ∧ TyO K H x t ∧ PySem.W.kitOne K t u = some b ∧ Q (.bl b) H
theorem call_isO : CallR X (.builtin "isinstance") (rIsO X.K) := by
  intro pn st τ G xs us Q I r q
  obtain ⟨x, c, t, u, b, rfl, k, ty, e, q⟩ := q
  obtain ⟨w1, w2, rfl, r1, r2⟩ := vals2 r
  have e2 := k.eq r2
  subst e2
  obtain ⟨P, Z, p, nx⟩ := kit_ofO I r1 ty
  exact PySem.W.kia_one Z I.kIn p e nx fun n => ⟨.bl b, G, I.tok n, rfl, q⟩
def isaD (rel : Str → Option Bool) : D → Res D
  | .none => .ok (.bool false)
  | .dict [(.none, .str y)] => match rel y with
    | some b => .ok (.bool b)
    | none => .stuck
  | _ => .stuck
structure IsaOk (K : PySem.W.Frag) (u : Value) (rel : Str → Option Bool) : Prop where
  non : PySem.W.kitOne K (.type "NoneType") u = some false
  er : ∀ y b, rel y = some b → ∃ C, PySem.W.nsIn K mainGlobals y = some (some (.ref C)) ∧ ExcC K C ∧ PySem.W.kitOne K (.ref C) u = some b
structure IsaTOk (K : PySem.W.Frag) (us : List Value) (rel : Str → Option Bool) : Prop where
  non : PySem.W.kitAny K (.type "NoneType") us = some false
  er : ∀ y b, rel y = some b → ∃ C, PySem.W.nsIn K mainGlobals y = some (some (.ref C)) ∧ ExcC K C ∧ PySem.W.kitAny K (.ref C) us = some b
theorem isa_run {kit : Value → Option Bool} {rel : Str → Option Bool} {v : V} {d : D} {R H : Hp} {Q : VK} (non : kit (.type "NoneType") = some false) (er : ∀ y b, rel y = some b → ∃ C, PySem.W.nsIn X.K mainGlobals y = some (some (.ref C)) ∧ ExcC X.K C ∧ kit (.ref C) = some b)
    (r : Rp X.K R v d) (s : Same R H) (h : Post X.K X.mg Ex (rV X.K) R H Q (isaD rel d)) : ∃ t b, TyO X.K H v t ∧ kit t = some b ∧ Q (.bl b) H := by
  cases r with
  | non => exact ⟨_, false, .inl (.base .non), non, Post.now s (Rp.bl false) h⟩
  | @ob a x k vs kvs o f =>
    cases o with
    | ins m1 m2 => exact h.elim
    | wt m1 m2 m3 m4 m5 => exact h.elim
    | erf m1 m2 m3 => cases f; exact h.elim
    | @er C' m1 m2 =>
      cases f
      simp only [isaD] at h
      cases k : rel x with
      | none => rw [k] at h; exact h.elim
      | some b =>
        rw [k] at h
        obtain ⟨C, n1, n2, n3⟩ := er x b k
        rw [n1] at m1
        cases m1
        exact ⟨_, b, .inr (.inl ⟨a, _, rfl, rfl, s _ _ m2, n2⟩), n3, Post.now s (Rp.bl b) h⟩
  | dT g1 g2 => cases g2 <;> exact h.elim
  | _ => exact h.elim
variable {e : Expr} {f : DS → Res D} {pos p p2 : Pos} {x : Str}
theorem pe_cls {c : V} {u : Value} (n : Names X x u) (k : ClsV c u) : PE X (.Name x p) (tC c) := by
  obtain ⟨g, db, hm | ⟨hm, hv, hn⟩⟩ := n
  · cases k with
    | ty n => exact pe_glob g hm (show RelV (.ty n) (.type n) from rfl) db
    | own C => exact pe_glob g hm (show RelV (.ref C) (.ref C) from rfl) db
  · cases k with
    | ty n => exact pe_bltn g hm hv (show RelV (.ty n) (.type n) from rfl) hn db
    | own C => exact pe_bltn g hm hv (show RelV (.ref C) (.ref C) from rfl) hn db
theorem de_isa {c : V} {u : Value} {rel : Str → Option Bool} (F : IsaOk X.K u rel) (n : Names X x u) (k : ClsV c u) (hc : X.mg "isinstance" = none) (hg : Gl X "isinstance") (he : DE X E e f)
    (h1 : starEach [e, .Name x p2] X.env = (false, eval e X.env) :: starEach [.Name x p2] X.env := by rfl) (h2 : starEach [.Name x p2] X.env = (false, eval (.Name x p2) X.env) :: starEach [] X.env := by rfl)
    (hpl : (backTo pos (starEach [.Name x p2] X.env)).any (·.1) = false := by rfl) : DE X E (.Call (.Name "isinstance" p) [e, .Name x p2] [] pos) (e1 (isaD rel) f) := by
  obtain ⟨t, a1, a2⟩ := he
  refine ⟨_, pe_callB call_isO hg hc boot_isinstance (pa_cons a1 (pa_cons (pe_cls n k) pa_nil h2) h1) (by decide) (by decide) h1 hpl, fun σ τ R H Q hs s h => a2 σ τ R H _ hs s (post_bind s h fun d v R1 H1 x1 q1 k1 => ?_)⟩
  obtain ⟨ty, b, t1, t2, t3⟩ := isa_run (kit := fun t => PySem.W.kitOne X.K t u) F.non F.er q1 x1.sub k1
  exact ⟨v, c, ty, u, b, rfl, k, t1, t2, t3⟩
inductive ClsA (X : Cx) : List Expr → List V → List Value → Prop
  | nil : ClsA X [] [] []
  | cons {x : Str} {p : Pos} {c : V} {u : Value} {es : List Expr} {cs : List V} {us : List Value} : Names X x u → ClsV c u → starEach (.Name x p :: es) X.env = (false, eval (.Name x p) X.env) :: starEach es X.env → ClsA X es cs us → ClsA X (.Name x p :: es) (c :: cs) (u :: us)
theorem ClsA.pa {es : List Expr} {cs : List V} {us : List Value} (h : ClsA X es cs us) : (∃ t : TA, PA X es t ∧ ∀ σ H (Q : List V → Hp → Prop), Q cs H → t σ H Q) ∧ Paired ClsV cs us := by
  induction h with
  | nil => exact ⟨⟨_, pa_nil, fun _ _ _ q => q⟩, .nil⟩
  | cons n k st _ ih =>
    obtain ⟨⟨t, t1, t2⟩, q⟩ := ih
    exact ⟨⟨_, pa_cons (pe_cls n k) t1 st, fun σ H Q z => t2 σ H _ z⟩, .cons k q⟩
end
end E3
namespace E3
open PySem PySem.Spec PyProof.Rows L2
def EMRO : List Value := [.type "ValueError", .type "Exception", .type "BaseException", .type "object"]
theorem look_nil {P : Str → Bool → Prop} : ∀ y b, (([] : List (Str × Bool)).lookup y) = some b → P y b := fun _ _ h => nomatch h
theorem look_cons {P : Str → Bool → Prop} {x : Str} {c : Bool} {l : List (Str × Bool)} (h : P x c) (r : ∀ y b, l.lookup y = some b → P y b) : ∀ y b, ((x, c) :: l).lookup y = some b → P y b := fun y b e => by
  rw [List.lookup_cons] at e
  by_cases z : (y == x) = true
  · have z' : y = x := by simpa using z
    rw [z] at e
    cases e
    rw [z']
    exact h
  · have z' : (y == x) = false := by cases q : (y == x) <;> simp_all
    rw [z'] at e
    exact r y b e
section
variable {K : PySem.W.Frag} {C D : Addr} {b : Bool}
theorem kit_own (hd : PySem.W.hasDictIn K C = true) (ty : PySem.W.typeIn K (.ref C) = some (.type "type")) {t : Value} (su : PySem.W.subIn K t (.ref C) = some b) : PySem.W.kitCls K t (.ref C) = some b := by
  have h := PySem.W.any_some hd
  obtain ⟨cd, hc, _⟩ := h
  have e : ((PySem.W.clsIn K C).isSome && PySem.W.typeIn K (.ref C) == some (.type "type")) = true := by rw [hc, ty] <;> rfl
  show (if ((PySem.W.clsIn K C).isSome && PySem.W.typeIn K (.ref C) == some (.type "type")) = true then PySem.W.subIn K t (.ref C) else none) = some b
  rw [if_pos e]
  exact su
theorem kit_ref (hd : PySem.W.hasDictIn K C = true) (ty : PySem.W.typeIn K (.ref C) = some (.type "type")) (su : PySem.W.subIn K (.ref D) (.ref C) = some b) (ne : b = false → (Value.ref D == Value.ref C) = false) : PySem.W.kitOne K (.ref D) (.ref C) = some b := by
  unfold PySem.W.kitOne
  cases b with
  | false =>
    rw [ne rfl]
    exact kit_own hd ty su
  | true =>
    split
    · rfl
    · exact kit_own hd ty su
theorem kit_refN (hd : PySem.W.hasDictIn K C = true) (ty : PySem.W.typeIn K (.ref C) = some (.type "type")) (su : PySem.W.subIn K (.type "NoneType") (.ref C) = some b) : PySem.W.kitOne K (.type "NoneType") (.ref C) = some b := by
  unfold PySem.W.kitOne
  rw [show (Value.type "NoneType" == Value.ref C) = false from rfl]
  exact kit_own hd ty su
end
section
variable {X : Cx} {E : WX} {e : Expr} {f : DS → Res D} {pos p p2 : Pos}
end
end E3
namespace PySem.W
open PySem PySem.Calls PyProof.Rows PySem.SeqAt
section
variable {prog : Program} {w : World} {A : Around} {E : Value → Shared → Prop} {s : Shared}
theorem general_one (x y : Value) : keyLt' general' x y = oneLt' false x y := rfl
theorem slot_lt_tup {Q : Value → Shared → Prop} {l b : Addr} {xs ys : Array Value} {e r : Nat → Bool} (hl : s.heap.IsTuple l xs) (hb : s.heap.IsTuple b ys)
    (he : ∀ j (h1 : j < xs.size) (h2 : j < ys.size), EqAt A.in1 s xs[j] ys[j] (e j)) (hr : ∀ j (h1 : j < xs.size) (h2 : j < ys.size), e j = false → RcLt A.in1 s xs[j] ys[j] (r j))
    (h : Q (.bool (firstLt e r (decide (xs.size < ys.size)) (List.range (min xs.size ys.size)))) s) : wpAny (model prog w) A (call (.builtin "tuple.__lt__") [.ref l, .ref b]) Q E s := by
  obtain ⟨⟨c1, d1, da1, s1⟩, o1, k1, n1, e1⟩ := id hl
  obtain ⟨⟨c2, d2, da2, s2⟩, o2, k2, n2, e2⟩ := id hb
  simp only at k1 e1 k2 e2
  subst k1 e1 k2 e2
  exact call_meets F.slot_tuple_lt ⟨_, o1, rfl⟩ F.entry_tuple_lt (F.args_tuple_lt_2 _ _) (tuple_ltAt l b xs ys n1 n2 d1 d2 s1 s2 e r) ⟨o1, o2, he, hr, h⟩
theorem one_tuples {xs ys : List PyData} {a b : Value} {as bs : List Addr} {Q : Bool → Shared → Prop} (ra : Reads s.heap a (.tuple xs) as) (rb : Reads s.heap b (.tuple ys) bs) (hal : alikeAll xs ys = true)
    (hu : A.units + min (PyData.depth (.tuple xs)) (PyData.depth (.tuple ys)) < cLine) (hq : Q (dataLt (.tuple xs) (.tuple ys)) s) : wpAny (model prog w) A (oneLt' true a b) Q E s := by
  cases ra with
  | @tuple l o vs n _ as1 h1 h2 h3 h4 =>
    cases rb with
    | @tuple l' o' us n' _ bs1 k1 k2 k3 k4 =>
      have z1 : vs.size = xs.length := by simpa using ReadsAll.length _ _ _ h4
      have z2 : us.size = ys.length := by simpa using ReadsAll.length _ _ _ k4
      rw [dataLt_tuple, ← firstLt_toks xs ys hal, ← z1, ← z2] at hq
      rw [oneLt'_eq, if_pos rfl]
      refine wpAny_bind (wpAny_cRoomFor (room_here hu) ?_)
      refine wpAny_bind (wpAny_callSpecialIfBound?_slot (T := "tuple") ⟨_, h1, h2⟩ F.slot_tuple_lt (slot_lt_tup (e := pairEq xs ys) (r := fun j => dataLt (xs.getD j .none) (ys.getD j .none)) ⟨_, h1, h2, _, h3⟩ ⟨_, k1, k2, _, k3⟩ (fun j j1 j2 => ?_) (fun j j1 j2 hj => ?_) (wpAny_truthy_bool hq)))
      · have q := eqAt_alikeAll xs ys A.in1 s vs.toList us.toList _ _ h4 k4 hal (room_in hu) j (by simpa using j1) (by simpa using j2)
        simp only [Array.getElem_toList] at q
        exact q
      · have q := rcLt_alikeAll xs ys A.in1 s vs.toList us.toList _ _ h4 k4 hal (room_in hu) j (by simpa using j1) (by simpa using j2) hj
        simp only [Array.getElem_toList] at q
        exact q
def neTup : PyData → Bool
  | .tuple (_ :: _) => true
  | _ => false
theorem firsts_mix {M : Model} : ∀ (vs : List Value) (ds : List PyData) {Q : List (Option Value) → Shared → Prop}, EachIs (fun v d => ∃ as, Reads s.heap v d as) vs ds → (∀ d ∈ ds, ∃ xs, d = .tuple xs) → (∀ fs : List (Option Value), fs.map Option.isSome = ds.map neTup → Q fs s) → wpAny M A (vs.mapM firstOfTuple') Q E s
  | _, _, _, .nil, _, h => by rw [List.mapM_nil]; exact wpAny_pure (h [] rfl)
  | v :: vs, d :: ds, Q, .cons ⟨as, r⟩ t, ht, h => by
    obtain ⟨xs, rfl⟩ := ht d List.mem_cons_self
    cases r with
    | @tuple a o ys n _ _ ho hc hd hr =>
      rw [List.mapM_cons]
      refine wpAny_bind ?_
      rw [kas_first_eq]
      refine wpAny_bind (Looks.here (show Looks M s.heap (typeOf (.ref a)) o.cls from (Looks.ld ho).andThen .now) ?_)
      rw [hc, if_neg (by decide)]
      refine wpAny_bind (listItems_at ho hd (wpAny_pure ?_))
      refine wpAny_bind (firsts_mix vs ds t (fun d hd => ht d (List.mem_cons_of_mem _ hd)) fun fs e => wpAny_pure (h _ ?_))
      rw [List.map_cons, List.map_cons, e]
      congr 1
      have len : ys.size = xs.length := by simpa using ReadsAll.length _ _ _ hr
      cases xs with
      | nil =>
        have z : ys[0]? = none := Array.getElem?_eq_none (by rw [len]; exact Nat.le_refl _)
        rw [z]; rfl
      | cons x r =>
        have z : 0 < ys.size := by rw [len]; exact Nat.succ_pos _
        rw [Array.getElem?_eq_getElem z]; rfl
theorem sorts_tups {vs : List Value} {ds : List PyData} (e : EachIs (fun v d => ∃ as, Reads s.heap v d as) vs ds) (hal : AllAlike ds) (ht : ∀ d ∈ ds, ∃ xs, d = .tuple xs) (hu : ∀ d ∈ ds, A.units + d.depth < cLine) : SortsAt prog w A s (dataKind s.heap ds) vs := by
  by_cases all : ∀ d, d ∈ ds → ∃ x r, d = .tuple (x :: r)
  · exact SortsAt.data e hal (.inl all) hu
  · have room : ∀ {d d' : PyData}, d ∈ ds → A.units + min d.depth d'.depth < cLine := fun {d d'} hd => Nat.lt_of_le_of_lt (Nat.add_le_add_left (Nat.min_le_left _ _) _) (hu d hd)
    have some0 : ∃ d ∈ ds, neTup d = false := Classical.byContradiction fun no => all fun d hd => by
      obtain ⟨xs, rfl⟩ := ht d hd
      cases xs with
      | nil => exact absurd ⟨_, hd, rfl⟩ no
      | cons x r => exact ⟨x, r, rfl⟩
    have na : ∀ fs : List (Option Value), fs.map Option.isSome = ds.map neTup → ¬ (fs.toArray.all fun x => x.isSome) = true := fun fs ef z => by
      obtain ⟨d, hd, hn⟩ := some0
      have : false ∈ fs.map Option.isSome := by rw [ef, ← hn]; exact List.mem_map_of_mem hd
      obtain ⟨x, hx, ex⟩ := List.mem_map.mp this
      rw [List.all_toArray, List.all_eq_true] at z
      rw [z x hx] at ex
      cases ex
    have cmp : ∀ (f : Bool) (E : Value → Shared → Prop) (x y : Value) (a b : List (Int ⊕ List Nat)) (Q : Bool → Shared → Prop), (dataKind s.heap ds).keyOf x = some a → (dataKind s.heap ds).keyOf y = some b → Q (PyProof.Rows.lexLt itemOrd a b) s → wpAny (model prog w) A (oneLt' f x y) Q E s := fun f E x y a b Q ha hb hq => by
      obtain ⟨d, as, hd, ra, rfl⟩ := dataKind_inv ha
      obtain ⟨d', as', hd', rb, rfl⟩ := dataKind_inv hb
      obtain ⟨xs, rfl⟩ := ht d hd
      obtain ⟨ys, rfl⟩ := ht d' hd'
      have q : Q (dataLt (.tuple xs) (.tuple ys)) s := hq
      cases f with
      | true => exact one_tuples ra rb (by simpa [alike] using hal _ hd _ hd') (room hd) q
      | false => exact oneLt_alike (fun z => by cases z) ra rb (hal _ hd _ hd') (by simp) (room hd) q
    refine ⟨fun v hv => ?_, ?_⟩
    · obtain ⟨d, hd, as, r⟩ := e.left v hv
      exact ⟨_, dataKind_some hal hd r⟩
    · cases ds with
      | nil => obtain ⟨d, hd, _⟩ := some0; cases hd
      | cons d0 ds0 =>
        cases h0 : neTup d0 with
        | true =>
          refine ⟨general', fun E x y a b Q ha hb hq => ?_, fun h2 E Q hq => ?_⟩
          · rw [general_one]
            exact cmp false E x y a b Q ha hb hq
          · rw [kat_kind_eq, List.mapM_toArray, map_eq_pure_bind]
            refine wpAny_bind (wpAny_bind (firsts_mix vs _ e ht fun fs ef => wpAny_pure ?_))
            rw [if_neg (na fs ef)]
            have f0 : (fs.toArray[0]?.bind id).isSome = true := by
              cases fs with
              | nil => cases ef
              | cons x r =>
                rw [List.map_cons, List.map_cons, h0] at ef
                have e1 := (List.cons.inj ef).1
                first | exact e1 | simpa using e1 | (rw [← e1]; simp)
            rw [if_pos f0]
            exact wpAny_pure hq
        | false =>
          refine ⟨oneType', fun E x y a b Q ha hb hq => ?_, fun h2 E Q hq => ?_⟩
          · rw [keyLt'_oneType]
            exact cmp true E x y a b Q ha hb hq
          · have hT : ∀ v ∈ vs, Looks (model prog w) s.heap (typeOf v) (Value.type "tuple") := fun v hv => by
              obtain ⟨d, hd, as, r⟩ := e.left v hv
              obtain ⟨xs, rfl⟩ := ht d hd
              exact looks_reads r
            rw [kat_kind_eq, List.mapM_toArray, map_eq_pure_bind]
            refine wpAny_bind (wpAny_bind (firsts_mix vs _ e ht fun fs ef => wpAny_pure ?_))
            rw [if_neg (na fs ef)]
            have f0 : ¬ (fs.toArray[0]?.bind id).isSome = true := by
              cases fs with
              | nil => cases ef
              | cons x r =>
                rw [List.map_cons, List.map_cons, h0] at ef
                have e1 := (List.cons.inj ef).1
                first | exact e1 | simpa using e1 | (rw [← e1]; simp)
            rw [if_neg f0, oneTypeOnly'_eq, List.mapM_toArray, map_eq_pure_bind]
            refine wpAny_bind (wpAny_bind (wpAny_bind (kas_mapM (r := Value.type "tuple") vs (fun v hv Q' hq => (hT v hv).here hq) (wpAny_pure ?_))))
            obtain ⟨v1, r1, rfl⟩ : ∃ v r, vs = v :: r := by
              cases vs with
              | nil => simp at h2
              | cons v r => exact ⟨v, r, rfl⟩
            have c1 : (List.map (fun _ => Value.type "tuple") (v1 :: r1)).toArray[0]? = some (Value.type "tuple") := by simp
            have c2 : ((List.map (fun _ => Value.type "tuple") (v1 :: r1)).toArray.all fun x => x == Value.type "tuple") = true := by
              rw [List.all_toArray, List.all_eq_true]
              intro x hx
              obtain ⟨_, _, rfl⟩ := List.mem_map.mp hx
              rfl
            rw [c1]
            simp only [c2, if_true]
            exact wpAny_pure (wpAny_pure hq)
end
end PySem.W
namespace PySem.W
open PySem PySem.Calls PyProof.Rows PySem.SeqAt
theorem sorted_tups {prog : Program} {w : World} {A : Around} {E : Value → Shared → Prop} {s : Shared} {β : Type} {vs : List Value} {bs : List β} {enc : β → PyData} {R : Value → β → Prop} {l : Addr} {Q : Value → Shared → Prop} (hl : s.heap.IsList l vs.toArray) (e : EachIs R vs bs) (er : EachIs (fun v b => ∃ as, Reads s.heap v (enc b) as) vs bs) (hal : AllAlike (bs.map enc)) (ht : ∀ d ∈ bs.map enc, ∃ xs, d = .tuple xs) (hL : bs.length ≤ sizeLine)
    (hu : ∀ b ∈ bs, A.units + 2 + (enc b).depth < cLine) (h : ∀ out : List Value, out.length = bs.length → EachIs R out (bs.mergeSort (dataLe false enc)) → Q (.ref (s.heap.objs.size + 1)) { s with heap := sortedAll s.heap vs out.toArray }) :
    wpAny (model prog w) A (call (.builtin "sorted") [.ref l]) Q E s := by
  have rd : EachIs (fun v b => ∃ as, Reads (sortingHeap (copyHeap s.heap vs) (s.heap.objs.size + 1) vs) v (enc b) as) vs bs := er.mono fun _ _ ⟨as, r⟩ => ⟨as, PyProof.Rows.Reads.keeps (fun _ _ => sorting_copy_old) r⟩
  have S := sorts_tups (prog := prog) (w := w) (A := A.in1.in1) (s := { s with heap := sortingHeap (copyHeap s.heap vs) (s.heap.objs.size + 1) vs }) (vs := vs) (ds := bs.map enc)
    (each_map (R := fun v d => ∃ as, Reads (sortingHeap (copyHeap s.heap vs) (s.heap.objs.size + 1) vs) v d as) enc rd) hal ht fun d hd => by
      obtain ⟨b, hb, rfl⟩ := List.mem_map.mp hd
      exact hu b hb
  exact sorted_vals hl S (by rw [e.length]; exact hL) (h _ (by rw [sortVals_length false rfl]; exact e.length) (sortVals_data false e rd hal))
end PySem.W
namespace E3
open PySem PySem.Spec PyProof.Rows L2
def isTup : D → Bool
  | .tuple _ => true
  | _ => false
def sortOkT (ds : List D) : Bool := (ds.all fun d => ds.all fun e => PySem.W.alike d e) && ds.all isTup && PyData.canLayAll0 ds && decide (PyData.depthAll ds ≤ 64) && decide (ds.length ≤ sizeLine)
theorem sortOkT_all {ds : List D} (h : sortOkT ds = true) : PySem.W.AllAlike ds ∧ (∀ d ∈ ds, ∃ xs, d = .tuple xs) ∧ PyData.canLayAll0 ds = true ∧ (∀ d ∈ ds, d.depth ≤ 64) ∧ ds.length ≤ sizeLine := by
  simp only [sortOkT, Bool.and_eq_true, List.all_eq_true, decide_eq_true_eq] at h
  obtain ⟨⟨⟨⟨h1, h2⟩, h3⟩, h4⟩, h5⟩ := h
  refine ⟨fun d hd d' hd' => h1 d hd d' hd', fun d hd => ?_, h3, fun d hd => Nat.le_trans (PyData.depth_le_depthAll ds d hd) h4, h5⟩
  have := h2 d hd
  cases d with
  | tuple xs => exact ⟨xs, rfl⟩
  | _ => cases this
def rSortT (K : PySem.W.Frag) : List V → Hp → VK → Prop := fun vs H Q => ∃ (a : Addr) (xs : List V) (ds : List D), vs = [.ref a] ∧ SqL K H a xs ∧ DpAll K H xs ds ∧ sortOkT ds = true ∧ ∀ p, H p = none → Q (.ref p) (upd H p (.lst ((zsort xs ds).map (·.1))))
section
variable {X : Cx}
theorem cr_sortT (hu : X.A.units + 70 < cLine) : CallR X (.builtin "sorted") (rSortT X.K) := fun pins s τ H vs us Q I r h => by
  obtain ⟨a, xs, ds, rfl, hl, hd, ok, q⟩ := h
  obtain ⟨k1, k2, k3, k4, k5⟩ := sortOkT_all ok
  rw [Vals.ref1 r]
  obtain ⟨its, rv, pl, hz⟩ := I.list hl
  have len := dp_len hd
  refine PySem.W.sorted_tups (bs := xs.zip ds) (enc := fun b : V × D => b.2) (R := fun u (b : V × D) => RelV b.1 u ∧ Dp X.K H b.1 b.2) pl.isList (each_zip hd rv) (reads_each I hd rv) (by rw [zip_data len]; exact k1) (by rw [zip_data len]; exact k2) (by rw [List.length_zip]; omega) (fun b hb => ?_) fun out ho eo => ?_
  · have hm : b.2 ∈ ds := by
      have : b.2 ∈ (xs.zip ds).map (·.2) := List.mem_map.mpr ⟨b, hb, rfl⟩
      rwa [zip_snd len] at this
    have := k4 _ hm
    omega
  · obtain ⟨ep, he'⟩ := PyProof.Rows.sortedAll_at s.heap its out.toArray
    have hv : Vals ((zsort xs ds).map (·.1)) out := vals_each eo
    have hn : H (s.heap.objs.size + 1) = none := I.hok.fresh (Nat.le_succ _)
    have hlen : ((zsort xs ds).map (·.1)).length ≤ sizeLine := by
      rw [List.length_map, (List.mergeSort_perm _ _).length_eq, List.length_zip]; omega
    exact ⟨.ref _, upd H (s.heap.objs.size + 1) (.lst ((zsort xs ds).map (·.1))), I.laid (t' := s.toks) (fun _ _ => PyProof.Rows.sortedAll_old) (Nat.le_succ _) ⟨hlen, out, ep, hv, he'⟩, rfl, q _ hn⟩
def sortedTD : List D → Res D
  | [.list ds] => if sortOkT ds then .ok (.list (sortL ds)) else .stuck
  | _ => .stuck
theorem cn_sortedT (hu : X.A.units + 70 < cLine) : CallN X (.builtin "sorted") sortedTD := by
  refine ⟨_, cr_sortT hu, fun vs ds R H Q Ex r s h => ?_⟩
  match ds, r, h with
  | [.list es], r, h =>
    obtain ⟨v, rfl, q⟩ := one_inv r
    cases q with
    | lst g1 g2 =>
      simp only [sortedTD] at h
      split at h
      · rename_i ok
        exact ⟨_, _, es, rfl, (ls_same s g1).sq, (g2.mono s).dp (sortOkT_all ok).2.2.1, ok, fun p hp => new_own (zsort_rp g2) s hp h⟩
      · exact h.elim
  | [], _, h => exact h.elim
  | [.none], _, h => exact h.elim
  | [.bool _], _, h => exact h.elim
  | [.int _], _, h => exact h.elim
  | [.str _], _, h => exact h.elim
  | [.tuple _], _, h => exact h.elim
  | [.dict _], _, h => exact h.elim
  | d1 :: _ :: _, _, h => cases d1 <;> exact h.elim
end
end E3
namespace E3
open PySem PySem.Spec PyProof.Rows L2
def lenT : D → Int
  | .tuple ds => ((ds.length : Nat) : Int)
  | _ => 0
def lenLe (a b : D) : Bool := decide (lenT a ≤ lenT b)
abbrev zsortN (xs : List V) (ds : List D) : List (V × D) := (xs.zip ds).mergeSort (PySem.W.dataLe false (fun b : V × D => PyData.int (lenT b.2)))
theorem zsortN_snd {xs : List V} {ds : List D} (h : xs.length = ds.length) : (zsortN xs ds).map (·.2) = ds.mergeSort lenLe :=
  (PySem.W.sort_maps (r := PySem.W.dataLe false fun p : V × D => PyData.int (lenT p.2)) (s := lenLe) (fun p : V × D => p.2) (fun a _ b _ => congrFun (congrFun (PySem.W.dataLe_int fun p : V × D => lenT p.2) a) b)).trans (by rw [zip_snd h])
theorem zsortN_rp {K : PySem.W.Frag} {R : Hp} {xs : List V} {ds : List D} (h : RpA K R xs ds) : RpA K R ((zsortN xs ds).map (·.1)) (ds.mergeSort lenLe) := by
  rw [← zsortN_snd h.length]
  have all : ∀ b ∈ xs.zip ds, Rp K R b.1 b.2 := by
    induction ds generalizing xs with
    | nil => intro b hb; simp at hb
    | cons d r ih =>
      cases h with
      | cons h1 h2 =>
        intro b hb
        rw [List.zip_cons_cons] at hb
        rcases List.mem_cons.mp hb with e | hb
        · subst e; exact h1
        · exact ih h2 b hb
  have all2 : ∀ b ∈ zsortN xs ds, Rp K R b.1 b.2 := fun b hb => all b ((List.mergeSort_perm _ _).mem_iff.mp hb)
  generalize zsortN xs ds = l at all2
  induction l with
  | nil => exact .nil
  | cons b l ih => exact .cons (all2 b List.mem_cons_self) (ih fun c hc => all2 c (List.mem_cons_of_mem _ hc))
def TLen (K : PySem.W.Frag) (H : Hp) (v : V) (d : D) : Prop := ∃ b ys, v = .ref b ∧ SqT K H b ys ∧ lenT d = ((ys.length : Nat) : Int)
theorem tlens {K : PySem.W.Frag} {R : Hp} : ∀ {xs : List V} {ds : List D}, RpA K R xs ds → (∀ d ∈ ds, ∃ es, d = .tuple es) → Paired (TLen K R) xs ds
  | _, _, .nil, _ => .nil
  | _, _, .cons h r, ht => by
    obtain ⟨es, e⟩ := ht _ List.mem_cons_self
    subst e
    refine .cons ?_ (tlens r fun d hd => ht d (List.mem_cons_of_mem _ hd))
    cases h with
    | tup g1 g2 => exact ⟨_, _, rfl, SqT.of g1, by show ((es.length : Nat) : Int) = _; rw [g2.length]⟩
theorem each_len {K : PySem.W.Frag} {H : Hp} : ∀ {xs : List V} {ds : List D} {us : List Value}, Paired (TLen K H) xs ds → Vals xs us → PySem.W.EachIs (fun u (b : V × D) => RelV b.1 u ∧ TLen K H b.1 b.2) us (xs.zip ds)
  | _, _, _, .nil, .nil => .nil
  | _, _, _, .cons h r, .cons q t => .cons ⟨q, h⟩ (each_len r t)
theorem vals_len {K : PySem.W.Frag} {H : Hp} : ∀ {us : List Value} {bs : List (V × D)}, PySem.W.EachIs (fun u (b : V × D) => RelV b.1 u ∧ TLen K H b.1 b.2) us bs → Vals (bs.map (·.1)) us
  | _, _, .nil => .nil
  | _, _, .cons h t => .cons h.1 (vals_len t)
def rSortN (K : PySem.W.Frag) : List V → Hp → VK → Prop := fun vs H Q => ∃ (a : Addr) (xs : List V) (ds : List D), vs = [.ref a] ∧ SqL K H a xs ∧ Paired (TLen K H) xs ds ∧ ds.length ≤ sizeLine ∧ ∀ p, H p = none → Q (.ref p) (upd H p (.lst ((zsortN xs ds).map (·.1))))
def tSortN (K : PySem.W.Frag) (t : TA) : TE := fun σ H Q => t σ H fun vs H1 => rSortN K vs H1 Q
section
variable {X : Cx} {E : WX}
theorem sortN_run (hu : X.A.units + 70 < cLine) {pins : List (Addr × Obj)} {s : Shared} {σ : L2.St} {H : Hp} {vs : List V} {us : List Value} {Q : VK} (I : Inv X pins σ H s) (r : Vals vs us) (h : rSortN X.K vs H Q) : wpAny (model X.prog X.w) X.A (call (.builtin "sorted") us [(Str.ofString "key", .builtin "len")]) (EP X pins σ Q) X.xe s := by
  obtain ⟨a, xs, ds, rfl, hl, hd, hz, q⟩ := h
  rw [Vals.ref1 r]
  obtain ⟨its, rv, pl, hzz⟩ := I.list hl
  have len : xs.length = ds.length := Paired.length hd
  refine PySem.W.sorted_key_data (bs := xs.zip ds) (R := fun u (b : V × D) => RelV b.1 u ∧ TLen X.K H b.1 b.2) (b := false) (fun b : V × D => PyData.int (lenT b.2)) pl.isList (each_len hd rv)
    (PySem.W.AllAlike.of fun b b' => by show PySem.W.alike (.int _) (.int _) = true; simp only [PySem.W.alike]) (PySem.W.Sortable.others fun b => ⟨fun z => (by cases z), fun xs z => (by cases z)⟩) (by rw [List.length_zip]; omega)
    (fun b _ => by show X.A.units + 2 + PyData.depth (.int _) < cLine; simp only [PyData.depth]; omega) (ksk_s1 _ _) (fun _ => ksk_l1 _ _) (fun x => ksk_t4 "len" x) (fun v b hb _ h tk kp => ?_) fun out c h' tk kp fr hD ho eo => ?_
  · obtain ⟨hr, d, ys, e, sq, el⟩ := hb
    rw [e] at hr
    obtain rfl : v = .ref d := hr
    obtain ⟨ts, rt, pt, pz⟩ := I.tuple sq
    have ln := rt.length
    have bound : sizeLine < 2 ^ 62 := by rw [sizeLine_eq]; decide
    refine len_tuple (items := ts.toArray) (pt.keeps kp) (by rw [List.size_toArray]; omega) ?_
    refine ⟨h, tk + 1 + 1, rfl, fun b o e => e, ?_⟩
    rw [List.size_toArray, ← ln, el]
    exact Reads.int _ _
  · have hv : Vals ((zsortN xs ds).map (·.1)) out := vals_len eo
    have hn : H (s.heap.objs.size + 1) = none := I.hok.fresh (Nat.le_succ _)
    have hlen : ((zsortN xs ds).map (·.1)).length ≤ sizeLine := by
      rw [List.length_map, (List.mergeSort_perm _ _).length_eq, List.length_zip]; omega
    exact ⟨.ref _, upd H (s.heap.objs.size + 1) (.lst ((zsortN xs ds).map (·.1))), I.laid (t' := tk) kp (Nat.le_succ _) ⟨hlen, out, c, hv, hD⟩, rfl, q _ hn⟩
theorem pe_sortN {x y : Str} {p q pos kp : Pos} {e : Expr} {nm : Str} {t : TA} (hu : X.A.units + 70 < cLine) (hg : Gl X x) (hm : X.mg x = none) (hv : bootBuiltins x = some (.builtin "sorted")) (hg2 : Gl X y) (hm2 : X.mg y = none) (hv2 : bootBuiltins y = some (.builtin "len")) (ha : PA X [e] t) (hnm : nm = Str.ofString "key") (hn : x ≠ "__name__" := by decide) (hdb : (x == ("__debug__" : Str)) = false := by decide) (hn2 : y ≠ "__name__" := by decide) (hdb2 : (y == ("__debug__" : Str)) = false := by decide)
    (he : backTo pos (starEach [e] X.env) = (false, eval e X.env) :: backTo pos (starEach [] X.env) := by rfl) (hpl : (backTo pos (starEach [e] X.env)).any (·.1) = false := by rfl)
    (hall : (backToKw pos (keywordEach [⟨some nm, .Name y q, kp⟩] X.env)).all (·.1.isSome) = true := by rfl) (hnone : (backToKw pos (keywordEach [⟨some nm, .Name y q, kp⟩] X.env)).any (·.1.isNone) = false := by rfl) (hks : (backToKw pos (keywordEach [⟨some nm, .Name y q, kp⟩] X.env)).filterMap (·.1) = [nm] := by rfl) :
    PE X (.Call (.Name x p) [e] [⟨some nm, .Name y q, kp⟩] pos) (tSortN X.K t) := by
  refine ⟨fun pins s σ H Q I h => ?_⟩
  refine wpAny_Call_Name_kw (ld_blt I hg hm hv ?_ hn hdb)
  refine PyProof.Rows.callWith_kw (thn (ha.run pos pins s σ H _ I h) fun us s1 ⟨vs, H1, I1, r1, q1⟩ => ?_) he hpl hall hnone
  show wpAny _ _ (evalAll ((do let v ← eval (.Name y q) X.env; standAt pos; pure v) :: [])) _ _ s1
  refine wpAny_evalAll_cons (wpAny_bind (ld_blt I1 hg2 hm2 hv2 (wpAny_bind (wpAny_standAt (wpAny_pure ?_))) hn2 hdb2))
  refine wpAny_evalAll_nil ?_
  rw [hks, hnm]
  exact sortN_run hu I1 r1 q1
def sortLenD : List D → Res D
  | [.list ds] => if (ds.all isTup && decide (ds.length ≤ sizeLine)) = true then .ok (.list (ds.mergeSort lenLe)) else .stuck
  | _ => .stuck
theorem dn_sortLen {x y : Str} {p q pos kp : Pos} {e : Expr} {nm : Str} {ga : DS → Res (List D)} (hu : X.A.units + 70 < cLine) (hg : Gl X x) (hm : X.mg x = none) (hv : bootBuiltins x = some (.builtin "sorted")) (hg2 : Gl X y) (hm2 : X.mg y = none) (hv2 : bootBuiltins y = some (.builtin "len")) (ha : DA X E [e] ga) (hnm : nm = Str.ofString "key" := by rfl) (hn : x ≠ "__name__" := by decide) (hdb : (x == ("__debug__" : Str)) = false := by decide) (hn2 : y ≠ "__name__" := by decide) (hdb2 : (y == ("__debug__" : Str)) = false := by decide)
    (he : backTo pos (starEach [e] X.env) = (false, eval e X.env) :: backTo pos (starEach [] X.env) := by rfl) (hpl : (backTo pos (starEach [e] X.env)).any (·.1) = false := by rfl)
    (hall : (backToKw pos (keywordEach [⟨some nm, .Name y q, kp⟩] X.env)).all (·.1.isSome) = true := by rfl) (hnone : (backToKw pos (keywordEach [⟨some nm, .Name y q, kp⟩] X.env)).any (·.1.isNone) = false := by rfl) (hks : (backToKw pos (keywordEach [⟨some nm, .Name y q, kp⟩] X.env)).filterMap (·.1) = [nm] := by rfl) :
    DN X E (.Call (.Name x p) [e] [⟨some nm, .Name y q, kp⟩] pos) (eCall sortLenD ga) := by
  obtain ⟨t, a1, a2⟩ := ha
  refine ⟨_, pe_sortN hu hg hm hv hg2 hm2 hv2 a1 hnm hn hdb hn2 hdb2 he hpl hall hnone hks, fun σ τ R H Q hs s h => a2 σ τ R H _ hs s (post_bindN h fun ds vs R1 H1 e1 r h1 => ?_)⟩
  match ds, r, h1 with
  | [.list es], r, h1 =>
    obtain ⟨v, rfl, q⟩ := one_inv r
    cases q with
    | lst g1 g2 =>
      simp only [sortLenD] at h1
      split at h1
      · rename_i ok
        rw [Bool.and_eq_true, List.all_eq_true, decide_eq_true_iff] at ok
        have ht : ∀ d ∈ es, ∃ xs, d = .tuple xs := fun d hd => by
          have := ok.1 d hd
          cases d with
          | tuple xs => exact ⟨xs, rfl⟩
          | _ => cases this
        exact ⟨_, _, es, rfl, (ls_same e1.sub g1).sq, tlens (g2.mono e1.sub) ht, ok.2, fun p hp => new_own (zsortN_rp g2) e1.sub hp h1⟩
      · exact h1.elim
  | [], _, h => exact h.elim
  | [.none], _, h => exact h.elim
  | [.bool _], _, h => exact h.elim
  | [.int _], _, h => exact h.elim
  | [.str _], _, h => exact h.elim
  | [.tuple _], _, h => exact h.elim
  | [.dict _], _, h => exact h.elim
  | d1 :: _ :: _, _, h => cases d1 <;> exact h.elim
end
end E3
namespace K54
open PySem PySem.Spec PyProof.Rows L2 E3
noncomputable section
def topS (i : Nat) : Stmt := PySem.Challenge.pw_edgemoss_k54_sets_crossed.main.body.getD i (.Pass ⟨0, 0, 0, 0⟩)
abbrev s_law_deal : Stmt := topS 13
theorem sc_law_deal : FnScope ["cell", "many", "number", "one", "k", "two"] ["cell", "many"] (defScope s_law_deal) := ⟨rfl, rfl, rfl, by decide +kernel, rfl, by decide +kernel, by decide +kernel⟩
abbrev s_law_pairs : Stmt := topS 21
theorem sc_law_pairs : FnScope ["number", "many", "far", "k"] ["number"] (defScope s_law_pairs) := ⟨rfl, rfl, rfl, by decide +kernel, rfl, by decide +kernel, by decide +kernel⟩
abbrev s_law_subset : Stmt := topS 15
theorem sc_law_subset : FnScope ["window", "bits", "found", "k"] ["window", "bits"] (defScope s_law_subset) := ⟨rfl, rfl, rfl, by decide +kernel, rfl, by decide +kernel, by decide +kernel⟩
abbrev s_law_sets : Stmt := topS 17
theorem sc_law_sets : FnScope ["number", "window", "count", "sets", "k", "bits", "some", "steps"] ["number", "window"] (defScope s_law_sets) := ⟨rfl, rfl, rfl, by decide +kernel, rfl, by decide +kernel, by decide +kernel⟩
abbrev s_holds_any : Stmt := topS 8
theorem sc_holds_any : FnScope ["one", "sets", "seen", "step", "other"] ["one", "sets"] (defScope s_holds_any) := ⟨rfl, rfl, rfl, by decide +kernel, rfl, by decide +kernel, by decide +kernel⟩
abbrev s_looked : Stmt := topS 9
theorem sc_looked : FnScope ["sets", "found", "one"] ["sets"] (defScope s_looked) := ⟨rfl, rfl, rfl, by decide +kernel, rfl, by decide +kernel, by decide +kernel⟩
abbrev s_rising : Stmt := topS 4
theorem sc_rising : FnScope ["cells"] ["cells"] (defScope s_rising) := ⟨rfl, rfl, rfl, by decide +kernel, rfl, by decide +kernel, by decide +kernel⟩
abbrev s_joined : Stmt := topS 10
theorem sc_joined : FnScope ["ones", "others", "found", "one", "other"] ["ones", "others"] (defScope s_joined) := ⟨rfl, rfl, rfl, by decide +kernel, rfl, by decide +kernel, by decide +kernel⟩
abbrev s_crossed : Stmt := topS 11
theorem sc_crossed : FnScope ["sets", "found", "one", "step"] ["sets"] (defScope s_crossed) := ⟨rfl, rfl, rfl, by decide +kernel, rfl, by decide +kernel, by decide +kernel⟩
abbrev s_law_refused : Stmt := topS 20
theorem sc_law_refused : FnScope ["sets", "told", "e"] ["sets"] (defScope s_law_refused) := ⟨rfl, rfl, rfl, by decide +kernel, rfl, by decide +kernel, by decide +kernel⟩
abbrev s_law_row : Stmt := topS 22
theorem sc_law_row : FnScope ["row", "many", "gap", "start", "k"] ["row", "many", "gap", "start"] (defScope s_law_row) := ⟨rfl, rfl, rfl, by decide +kernel, rfl, by decide +kernel, by decide +kernel⟩
abbrev s_law_counts : Stmt := topS 23
theorem sc_law_counts : FnScope ["gap", "due", "more", "k"] ["gap"] (defScope s_law_counts) := ⟨rfl, rfl, rfl, by decide +kernel, rfl, by decide +kernel, by decide +kernel⟩
abbrev s_law_whole : Stmt := topS 14
theorem sc_law_whole : FnScope ["found"] ["found"] (defScope s_law_whole) := ⟨rfl, rfl, rfl, by decide +kernel, rfl, by decide +kernel, by decide +kernel⟩
abbrev s_law_is_sets : Stmt := topS 16
theorem sc_law_is_sets : FnScope ["found", "due", "steps", "step"] ["found", "due"] (defScope s_law_is_sets) := ⟨rfl, rfl, rfl, by decide +kernel, rfl, by decide +kernel, by decide +kernel⟩
abbrev s_law_less : Stmt := topS 18
theorem sc_law_less : FnScope ["good", "bits", "many", "k"] ["good", "bits", "many"] (defScope s_law_less) := ⟨rfl, rfl, rfl, by decide +kernel, rfl, by decide +kernel, by decide +kernel⟩
abbrev s_law_due : Stmt := topS 19
theorem sc_law_due : FnScope ["sets", "window", "good", "found", "bits", "steps", "one", "step"] ["sets", "window"] (defScope s_law_due) := ⟨rfl, rfl, rfl, by decide +kernel, rfl, by decide +kernel, by decide +kernel⟩
abbrev s_law : Stmt := topS 24
theorem sc_law : FnScope ["script", "cell", "number", "size", "far", "window", "sets", "handed", "found", "pairs", "k"] ["script"] (defScope s_law) := ⟨rfl, rfl, rfl, by decide +kernel, rfl, by decide +kernel, by decide +kernel⟩
def cat_MossError : Str → Option Bool := fun y => ([("TooMany", true)] : List (Str × Bool)).lookup y
def rel_0 : Str → Option Bool := fun y => ([("TooMany", true)] : List (Str × Bool)).lookup y
structure Txt (K : PySem.W.Frag) (mg : Str → Option Value) where
  a_law_deal : Addr
  d_law_deal : FuncData
  F_law_deal : Fun K "_law_deal" "_law_deal" s_law_deal a_law_deal d_law_deal
  g_law_deal : mg "_law_deal" = some (.ref a_law_deal)
  b_law_deal : Binds K d_law_deal ["cell", "many"] []
  a_law_pairs : Addr
  d_law_pairs : FuncData
  F_law_pairs : Fun K "_law_pairs" "_law_pairs" s_law_pairs a_law_pairs d_law_pairs
  g_law_pairs : mg "_law_pairs" = some (.ref a_law_pairs)
  b_law_pairs : Binds K d_law_pairs ["number"] []
  a_law_subset : Addr
  d_law_subset : FuncData
  F_law_subset : Fun K "_law_subset" "_law_subset" s_law_subset a_law_subset d_law_subset
  g_law_subset : mg "_law_subset" = some (.ref a_law_subset)
  b_law_subset : Binds K d_law_subset ["window", "bits"] []
  a_law_sets : Addr
  d_law_sets : FuncData
  F_law_sets : Fun K "_law_sets" "_law_sets" s_law_sets a_law_sets d_law_sets
  g_law_sets : mg "_law_sets" = some (.ref a_law_sets)
  b_law_sets : Binds K d_law_sets ["number", "window"] []
  a_holds_any : Addr
  d_holds_any : FuncData
  F_holds_any : Fun K "holds_any" "holds_any" s_holds_any a_holds_any d_holds_any
  g_holds_any : mg "holds_any" = some (.ref a_holds_any)
  b_holds_any : Binds K d_holds_any ["one", "sets"] []
  a_looked : Addr
  d_looked : FuncData
  F_looked : Fun K "looked" "looked" s_looked a_looked d_looked
  g_looked : mg "looked" = some (.ref a_looked)
  b_looked : Binds K d_looked ["sets"] []
  a_rising : Addr
  d_rising : FuncData
  F_rising : Fun K "rising" "rising" s_rising a_rising d_rising
  g_rising : mg "rising" = some (.ref a_rising)
  b_rising : Binds K d_rising ["cells"] []
  a_joined : Addr
  d_joined : FuncData
  F_joined : Fun K "joined" "joined" s_joined a_joined d_joined
  g_joined : mg "joined" = some (.ref a_joined)
  b_joined : Binds K d_joined ["ones", "others"] []
  a_crossed : Addr
  d_crossed : FuncData
  F_crossed : Fun K "crossed" "crossed" s_crossed a_crossed d_crossed
  g_crossed : mg "crossed" = some (.ref a_crossed)
  b_crossed : Binds K d_crossed ["sets"] []
  a_law_refused : Addr
  d_law_refused : FuncData
  F_law_refused : Fun K "_law_refused" "_law_refused" s_law_refused a_law_refused d_law_refused
  g_law_refused : mg "_law_refused" = some (.ref a_law_refused)
  b_law_refused : Binds K d_law_refused ["sets"] []
  a_law_row : Addr
  d_law_row : FuncData
  F_law_row : Fun K "_law_row" "_law_row" s_law_row a_law_row d_law_row
  g_law_row : mg "_law_row" = some (.ref a_law_row)
  b_law_row : Binds K d_law_row ["row", "many", "gap", "start"] []
  a_law_counts : Addr
  d_law_counts : FuncData
  F_law_counts : Fun K "_law_counts" "_law_counts" s_law_counts a_law_counts d_law_counts
  g_law_counts : mg "_law_counts" = some (.ref a_law_counts)
  b_law_counts : Binds K d_law_counts ["gap"] []
  a_law_whole : Addr
  d_law_whole : FuncData
  F_law_whole : Fun K "_law_whole" "_law_whole" s_law_whole a_law_whole d_law_whole
  g_law_whole : mg "_law_whole" = some (.ref a_law_whole)
  b_law_whole : Binds K d_law_whole ["found"] []
  a_law_is_sets : Addr
  d_law_is_sets : FuncData
  F_law_is_sets : Fun K "_law_is_sets" "_law_is_sets" s_law_is_sets a_law_is_sets d_law_is_sets
  g_law_is_sets : mg "_law_is_sets" = some (.ref a_law_is_sets)
  b_law_is_sets : Binds K d_law_is_sets ["found", "due"] []
  a_law_less : Addr
  d_law_less : FuncData
  F_law_less : Fun K "_law_less" "_law_less" s_law_less a_law_less d_law_less
  g_law_less : mg "_law_less" = some (.ref a_law_less)
  b_law_less : Binds K d_law_less ["good", "bits", "many"] []
  a_law_due : Addr
  d_law_due : FuncData
  F_law_due : Fun K "_law_due" "_law_due" s_law_due a_law_due d_law_due
  g_law_due : mg "_law_due" = some (.ref a_law_due)
  b_law_due : Binds K d_law_due ["sets", "window"] []
  a_law : Addr
  d_law : FuncData
  F_law : Fun K "law" "law" s_law a_law d_law
  g_law : mg "law" = some (.ref a_law)
  b_law : Binds K d_law ["script"] []
  z_all : mg "all" = none
  z_any : mg "any" = none
  z_bool : mg "bool" = none
  z_divmod : mg "divmod" = none
  z_int : mg "int" = none
  z_isinstance : mg "isinstance" = none
  z_len : mg "len" = none
  z_list : mg "list" = none
  z_range : mg "range" = none
  z_set : mg "set" = none
  z_sorted : mg "sorted" = none
  z_sum : mg "sum" = none
  z_tuple : mg "tuple" = none
  t_MOST_SETS : Tok
  n_MOST_SETS : mg "MOST_SETS" = some (.int 60 t_MOST_SETS)
  t_MOST_STEPS : Tok
  n_MOST_STEPS : mg "MOST_STEPS" = some (.int 400 t_MOST_STEPS)
  c_TooMany : Addr
  gc_TooMany : mg "TooMany" = some (.ref c_TooMany)
  c_MossError : Addr
  gc_MossError : mg "MossError" = some (.ref c_MossError)
  nc_TooMany : PySem.W.nsIn K mainGlobals "TooMany" = some (some (.ref c_TooMany))
  ex_TooMany : PySem.W.excIn K c_TooMany EMRO "ValueError.__new__" = true
  kc_TooMany : PySem.W.keepIn K (.ref c_TooMany) = true
  sb_TooMany : PySem.W.subIn K (.ref c_TooMany) (.type "BaseException") = some true
  ty_TooMany : PySem.W.typeIn K (.ref c_TooMany) = some (.type "type")
  k_cat_MossError : ∀ y b, cat_MossError y = some b → ∃ C, PySem.W.nsIn K mainGlobals y = some (some (.ref C)) ∧ mg y = some (.ref C) ∧ PySem.W.exmOne K (.ref C) (.ref c_MossError) = some b
  isa_0 : IsaOk K (.ref c_TooMany) rel_0
section
variable {P : Program} {w : World} {K : PySem.W.Frag} {mg : Str → Option Value} {base : Heap}
def C_law_deal_1 : SF := (sRet (e2 subD (eVar 0) (e2 powD (eC (.int 10)) (eC (.int 18)))))
def I_law_deal_1 : DS → Res (List D) := (fun σ => ((aCons (eVar 1) aNil) σ).bind rng1)
def B_law_deal_1 : SF := (sSeq (sSet 3 (e2 modD (e2 addD (e2 addD (e2 mulD (eVar 3) (eC (.int 48271))) (eVar 4)) (eC (.int 1))) (eC (.int 2147483647))))
  (sSeq (sSet 5 (e2 modD (e2 mulD (eVar 3) (eVar 3)) (eC (.int 2147483629))))
  (sSet 2 (e2 addD (e2 mulD (eVar 2) (eC (.int 999983))) (e2 modD (e2 addD (e2 fdivD (eVar 5) (eC (.int 1021))) (eVar 5)) (eC (.int 999983)))))))
def D_law_deal : List D → Res D := fnD 6 2 (sSeq (sIf (tB (e2 geD (eVar 0) (e2 powD (eC (.int 10)) (eC (.int 18))))) C_law_deal_1 sNil)
  (sSeq (sSet 2 (eC (.int 0)))
  (sSeq (sSet 3 (e2 modD (e2 mulD (e2 addD (e2 modD (eVar 0) (eC (.int 2147483647))) (eC (.int 977))) (eC (.int 69621))) (eC (.int 2147483647))))
  (sSeq (sFor I_law_deal_1 (gN 4)
  B_law_deal_1)
  (sRet (eVar 2))))))
theorem ok_law_deal (T : Txt K mg) : FnD P w K mg base 1 T.a_law_deal T.d_law_deal ["cell", "many"] D_law_deal := fn_mk T.F_law_deal sc_law_deal fun cdv A outer s H Ex hr =>
  (dss_cons (ds_if (dt_cmp od_ge (de_var 0) (de_op od_pow de_int de_int)) (dss_one (ds_ret (de_op od_sub (de_var 0) (de_op od_pow de_int de_int)))) dss_nil)
  (dss_cons (ds_set 2 sc_law_deal.nd rfl (by first | exact .inl rfl | exact .inr rfl) de_int)
  (dss_cons (ds_set 3 sc_law_deal.nd rfl (by first | exact .inl rfl | exact .inr rfl) (de_op od_mod (de_op od_mul (de_op od_add (de_op od_mod (de_var 0) de_int) de_int) de_int) de_int))
  (dss_cons (ds_for (passes_of rfl) rfl ((DR.di (dr_range1 (by rfl) T.z_range (da_cons (de_var 1) da_nil)))) (dg_name (i := 4) sc_law_deal.nd rfl (by first | exact .inl rfl | exact .inr rfl))
  (dss_cons (ds_set 3 sc_law_deal.nd rfl (by first | exact .inl rfl | exact .inr rfl) (de_op od_mod (de_op od_add (de_op od_add (de_op od_mul (de_var 3) de_int) (de_var 4)) de_int) de_int))
  (dss_cons (ds_set 5 sc_law_deal.nd rfl (by first | exact .inl rfl | exact .inr rfl) (de_op od_mod (de_op od_mul (de_var 3) (de_var 3)) de_int))
  (dss_one (ds_set 2 sc_law_deal.nd rfl (by first | exact .inl rfl | exact .inr rfl) (de_op od_add (de_op od_mul (de_var 2) de_int) (de_op od_mod (de_op od_add (de_op od_fdiv (de_var 5) de_int) (de_var 5)) de_int)))))))
  (dss_one (ds_ret (de_var 2)))))))
def D_law_pairs : List D → Res D := fnD 4 1 (sSeq (sAsg (gT 2 (gsCons (gN 0) (gsCons (gN 1) gsNil))) (eCall divmodD (aCons (eVar 0) (aCons (eC (.int 3)) aNil))))
  (sSeq (sAsg (gT 2 (gsCons (gN 0) (gsCons (gN 2) gsNil))) (eCall divmodD (aCons (eVar 0) (aCons (e2 powD (eC (.int 10)) (eC (.int 6))) aNil))))
  (sRet (eLc (fun σ => ((aCons (e2 addD (eC (.int 6)) (eVar 1)) aNil) σ).bind rng1) (gN 3) [3] tYesD (eTup (aCons (eTup (aCons (eVar 3) (aCons (e2 subD (eC (.int 0)) (eVar 2)) aNil))) (aCons (eTup (aCons (eVar 3) (aCons (e2 addD (eC (.int 1)) (e2 modD (eVar 0) (eC (.int 1000)))) aNil))) aNil)))))))
theorem ok_law_pairs (T : Txt K mg) : FnD P w K mg base 1 T.a_law_pairs T.d_law_pairs ["number"] D_law_pairs := fn_mk T.F_law_pairs sc_law_pairs fun cdv A outer s H Ex hr =>
  (dss_cons (ds_asg (de_callB (cd_divmod) (by rfl) T.z_divmod (by decide +kernel) (da_cons (de_var 0) (da_cons de_int da_nil))) (dg_tup rfl (dgs_cons (dg_name (i := 0) sc_law_pairs.nd rfl (by first | exact .inl rfl | exact .inr rfl)) (dgs_cons (dg_name (i := 1) sc_law_pairs.nd rfl (by first | exact .inl rfl | exact .inr rfl)) dgs_nil))))
  (dss_cons (ds_asg (de_callB (cd_divmod) (by rfl) T.z_divmod (by decide +kernel) (da_cons (de_var 0) (da_cons (de_op od_pow de_int de_int) da_nil))) (dg_tup rfl (dgs_cons (dg_name (i := 0) sc_law_pairs.nd rfl (by first | exact .inl rfl | exact .inr rfl)) (dgs_cons (dg_name (i := 2) sc_law_pairs.nd rfl (by first | exact .inl rfl | exact .inr rfl)) dgs_nil))))
  (dss_one (ds_ret (DN.de (dn_lc (own := [("k", 3)]) (pt := (gN 3)) (ix := [3]) rfl sc_law_pairs.nd (DR.di (dr_range1 (by rfl) T.z_range (da_cons (de_op od_add de_int (de_var 1)) da_nil))) (blkOk_by (own := [("k", 3)]) (N := ["number", "many", "far", "k"]) (sc := defScope s_law_pairs) (by decide +kernel)) (by decide) (fun _ _ _ _ _ => (dg_name (i := 3) sc_law_pairs.nd rfl (by first | exact .inl rfl | exact .inr rfl))) (fun _ _ _ _ _ => dts_nil) (fun _ _ _ _ _ => (de_tup (da_cons (de_tup (da_cons (de_var 3) (da_cons (de_op od_sub de_int (de_var 2)) da_nil))) (da_cons (de_tup (da_cons (de_var 3) (da_cons (de_op od_add de_int (de_op od_mod (de_var 0) de_int)) da_nil))) da_nil))))))))))
def I_law_subset_1 : DS → Res (List D) := (fun σ => ((aCons (eCall lenD (aCons (eVar 0) aNil)) aNil) σ).bind rng1)
def B_law_subset_1 : SF := (sIf (tB (e2 eqD (e2 andD (e2 shrD (eVar 1) (eVar 3)) (eC (.int 1))) (eC (.int 1)))) (sMut 2 appendM (aCons (e2 ixD (eVar 0) (eVar 3)) aNil)) sNil)
def D_law_subset : List D → Res D := fnD 4 2 (sSeq (sNew 2 (eLst aNil))
  (sSeq (sFor I_law_subset_1 (gN 3)
  B_law_subset_1)
  (sFreeze 2 (sRet (eCall tupleD (aCons (eVar 2) aNil))))))
theorem ok_law_subset (T : Txt K mg) : FnD P w K mg base 1 T.a_law_subset T.d_law_subset ["window", "bits"] D_law_subset := fn_mk T.F_law_subset sc_law_subset fun cdv A outer s H Ex hr =>
  (dss_cons (ds_new 2 sc_law_subset.nd rfl (by first | exact .inl rfl | exact .inr rfl) (dn_lst da_nil))
  (dss_cons (ds_for (passes_of rfl) rfl ((DR.di (dr_range1 (by rfl) T.z_range (da_cons (de_callB (cd_len) (by rfl) T.z_len (by decide +kernel) (da_cons (de_var 0) da_nil)) da_nil)))) (dg_name (i := 3) sc_law_subset.nd rfl (by first | exact .inl rfl | exact .inr rfl))
  (dss_one (ds_if (dt_cmp (od_eq (hu64 hr)) (de_op od_and (de_op od_shr (de_var 1) (de_var 3)) de_int) de_int) (dss_one (ds_mut 2 (isv 2) md_append (fun hm ho ha => pe_bm PySem.F.plainAttrs_list PySem.F.slot_list_append PySem.F.type_list_append hm ho ha) (da_cons (de_ix id_ix (de_var 0) (de_var 3)) da_nil))) dss_nil)))
  (dss_freeze 2 (dss_one (ds_ret (de_callTy (cd_tuple) (by rfl) T.z_tuple (by decide +kernel) (da_cons (de_var 2) da_nil)))))))
def I_law_sets_1 : DS → Res (List D) := (fun σ => ((aCons (eVar 2) aNil) σ).bind rng1)
def B_law_sets_1 : SF := (sSeq (sAsg (gT 2 (gsCons (gN 0) (gsCons (gN 5) gsNil))) (eCall divmodD (aCons (eVar 0) (aCons (eC (.int 64)) aNil))))
  (sSeq (sAsg (gT 2 (gsCons (gN 0) (gsCons (gN 6) gsNil))) (eCall divmodD (aCons (eVar 0) (aCons (eC (.int 8)) aNil))))
  (sSeq (sSet 7 (eCall D_law_subset (aCons (eVar 1) (aCons (eVar 5) aNil))))
  (sSeq (sMut 3 appendM (aCons (eSl (eVar 7) oNone (oSome (e2 addD (eC (.int 1)) (e2 modD (eVar 6) (eC (.int 4)))))) aNil))
  (sIf (tB (e2 eqD (eVar 6) (eC (.int 7)))) (sStoreV 3 (eVar 4) (eTup aNil)) sNil)))))
def T_law_sets_1 : SF := (sFreeze 3 (sRet (eTup (aCons (eVar 0) (aCons (eVar 3) aNil)))))
def D_law_sets : List D → Res D := fnD 8 2 (sSeq (sAsg (gT 2 (gsCons (gN 0) (gsCons (gN 2) gsNil))) (eCall divmodD (aCons (eVar 0) (aCons (eC (.int 6)) aNil))))
  (sSeq (sNew 3 (eLst aNil))
  (sSeq (sFor I_law_sets_1 (gN 4)
  B_law_sets_1)
  T_law_sets_1)))
theorem ok_law_sets (T : Txt K mg) : FnD P w K mg base 2 T.a_law_sets T.d_law_sets ["number", "window"] D_law_sets := fn_mk T.F_law_sets sc_law_sets fun cdv A outer s H Ex hr =>
  (dss_cons (ds_asg (de_callB (cd_divmod) (by rfl) T.z_divmod (by decide +kernel) (da_cons (de_var 0) (da_cons de_int da_nil))) (dg_tup rfl (dgs_cons (dg_name (i := 0) sc_law_sets.nd rfl (by first | exact .inl rfl | exact .inr rfl)) (dgs_cons (dg_name (i := 2) sc_law_sets.nd rfl (by first | exact .inl rfl | exact .inr rfl)) dgs_nil))))
  (dss_cons (ds_new 3 sc_law_sets.nd rfl (by first | exact .inl rfl | exact .inr rfl) (dn_lst da_nil))
  (dss_cons (ds_for (passes_of rfl) rfl ((DR.di (dr_range1 (by rfl) T.z_range (da_cons (de_var 2) da_nil)))) (dg_name (i := 4) sc_law_sets.nd rfl (by first | exact .inl rfl | exact .inr rfl))
  (dss_cons (ds_asg (de_callB (cd_divmod) (by rfl) T.z_divmod (by decide +kernel) (da_cons (de_var 0) (da_cons de_int da_nil))) (dg_tup rfl (dgs_cons (dg_name (i := 0) sc_law_sets.nd rfl (by first | exact .inl rfl | exact .inr rfl)) (dgs_cons (dg_name (i := 5) sc_law_sets.nd rfl (by first | exact .inl rfl | exact .inr rfl)) dgs_nil))))
  (dss_cons (ds_asg (de_callB (cd_divmod) (by rfl) T.z_divmod (by decide +kernel) (da_cons (de_var 0) (da_cons de_int da_nil))) (dg_tup rfl (dgs_cons (dg_name (i := 0) sc_law_sets.nd rfl (by first | exact .inl rfl | exact .inr rfl)) (dgs_cons (dg_name (i := 6) sc_law_sets.nd rfl (by first | exact .inl rfl | exact .inr rfl)) dgs_nil))))
  (dss_cons (ds_set 7 sc_law_sets.nd rfl (by first | exact .inl rfl | exact .inr rfl) (de_call (ok_law_subset T) (hr.mono (by decide)) (by rfl) T.g_law_subset T.F_law_subset.kp T.b_law_subset (takes_of rfl rfl rfl rfl) fnD_len (da_cons (de_var 1) (da_cons (de_var 5) da_nil))))
  (dss_cons (ds_mut 3 (isv 3) md_append (fun hm ho ha => pe_bm PySem.F.plainAttrs_list PySem.F.slot_list_append PySem.F.type_list_append hm ho ha) (da_cons (de_slice (de_var 7) do_none (do_some (de_op od_add de_int (de_op od_mod (de_var 6) de_int)))) da_nil))
  (dss_one (ds_if (dt_cmp (od_eq (hu64 hr)) (de_var 6) de_int) (dss_one (ds_storeV 3 (isv 3) (de_var 4) (de_tup da_nil))) dss_nil)))))))
  (dss_freeze 3 (dss_one (ds_ret (de_tup (da_cons (de_var 0) (da_cons (de_var 3) da_nil)))))))))
def I_holds_any_1 : DS → Res (List D) := (fun σ => ((eVar 0) σ).bind seqOf)
def I_holds_any_2 : DS → Res (List D) := (fun σ => ((eVar 1) σ).bind seqOf)
def B_holds_any_1 : SF := (sIf (E3.tAnd (tB (e2 ltD (eCall lenD (aCons (eVar 4) aNil)) (eCall lenD (aCons (eVar 0) aNil)))) (E3.tB (eCall allD (aCons (eLc (fun σ => ((eVar 4) σ).bind seqOf) (gN 3) [3] tYesD (e2 inG (eVar 3) (eVar 2))) aNil)))) (sRet (eC (.bool true))) sNil)
def T_holds_any_1 : SF := (sFreeze 2 (sSeq (sFor I_holds_any_2 (gN 4)
  B_holds_any_1)
  (sRet (eC (.bool false)))))
def D_holds_any : List D → Res D := fnD 5 2 (sSeq (sNew 2 (eC (.dict [])))
  (sSeq (sFor I_holds_any_1 (gN 3)
  (sPut 2 (eVar 3) (eC (.bool true))))
  T_holds_any_1))
theorem ok_holds_any (T : Txt K mg) : FnD P w K mg base 1 T.a_holds_any T.d_holds_any ["one", "sets"] D_holds_any := fn_mk T.F_holds_any sc_holds_any fun cdv A outer s H Ex hr =>
  (dss_cons (ds_new 2 sc_holds_any.nd rfl (by first | exact .inl rfl | exact .inr rfl) (dn_dict))
  (dss_cons (ds_for (passes_of rfl) rfl ((di_seq (de_var 0))) (dg_name (i := 3) sc_holds_any.nd rfl (by first | exact .inl rfl | exact .inr rfl))
  (dss_one (ds_put 2 (hu65 hr) (isv 2) (de_var 3) de_bl)))
  (dss_freeze 2 (dss_cons (ds_for (passes_of rfl) rfl ((di_seq (de_var 1))) (dg_name (i := 4) sc_holds_any.nd rfl (by first | exact .inl rfl | exact .inr rfl))
  (dss_one (ds_if (DW.pt (dw_and (dt_cmp od_lt (de_callB (cd_len) (by rfl) T.z_len (by decide +kernel) (da_cons (de_var 4) da_nil)) (de_callB (cd_len) (by rfl) T.z_len (by decide +kernel) (da_cons (de_var 0) da_nil))) (dw_and1 (dt_val (de_callB (cd_all rfl) (by rfl) T.z_all (by decide +kernel) (da_cons (DN.de (dn_lc (own := [("step", 3)]) (pt := (gN 3)) (ix := [3]) rfl sc_holds_any.nd (di_seq (de_var 4)) (blkOk_by (own := [("step", 3)]) (N := ["one", "sets", "seen", "step", "other"]) (sc := defScope s_holds_any) (by decide +kernel)) (by decide) (fun _ _ _ _ _ => (dg_name (i := 3) sc_holds_any.nd rfl (by first | exact .inl rfl | exact .inr rfl))) (fun _ _ _ _ _ => dts_nil) (fun _ _ _ _ _ => (de_cmp (od_inG (hu65 hr)) (de_var 3) (de_var 2))))) da_nil)))))) (dss_one (ds_ret de_bl)) dss_nil)))
  (dss_one (ds_ret de_bl))))))
def I_looked_1 : DS → Res (List D) := (fun σ => ((eCall sortLenD (aCons (eVar 0) aNil)) σ).bind seqOf)
def B_looked_1 : SF := (sSeq (sIf (E3.tAnd (tB (e2 notInG (eVar 2) (eVar 1))) (E3.tNot (E3.tB (eCall D_holds_any (aCons (eVar 2) (aCons (eVar 1) aNil)))))) (sMut 1 appendM (aCons (eVar 2) aNil)) sNil)
  (sIf (E3.tOr (tB (e2 gtD (eCall lenD (aCons (eVar 1) aNil)) (eC (.int 60)))) (tB (e2 gtD (eCall lenD (aCons (e2 ixD (eVar 1) (e1 negD (eC (.int 1)))) aNil)) (eC (.int 400))))) (sRaise ⟨"TooMany", none⟩) sNil))
def D_looked : List D → Res D := fnD 3 1 (sSeq (sNew 1 (eLst aNil))
  (sSeq (sFor I_looked_1 (gN 2)
  B_looked_1)
  (sFreeze 1 (sRet (eCall sortedTD (aCons (eVar 1) aNil))))))
theorem ok_looked (T : Txt K mg) : FnD P w K mg base 2 T.a_looked T.d_looked ["sets"] D_looked := fn_mk T.F_looked sc_looked fun cdv A outer s H Ex hr =>
  (dss_cons (ds_new 1 sc_looked.nd rfl (by first | exact .inl rfl | exact .inr rfl) (dn_lst da_nil))
  (dss_cons (ds_for (passes_of rfl) rfl ((di_seq (DN.de (dn_sortLen (hu70 hr) (by rfl) T.z_sorted (by decide +kernel) (by rfl) T.z_len (by decide +kernel) (da_cons (de_var 0) da_nil))))) (dg_name (i := 2) sc_looked.nd rfl (by first | exact .inl rfl | exact .inr rfl))
  (dss_cons (ds_if (DW.pt (dw_and (dt_cmp (od_notInG (hu65 hr)) (de_var 2) (de_var 1)) (dw_and1 (dt_not (dt_val (de_call (ok_holds_any T) (hr.mono (by decide)) (by rfl) T.g_holds_any T.F_holds_any.kp T.b_holds_any (takes_of rfl rfl rfl rfl) fnD_len (da_cons (de_var 2) (da_cons (de_var 1) da_nil)))))))) (dss_one (ds_mut 1 (isv 1) md_append (fun hm ho ha => pe_bm PySem.F.plainAttrs_list PySem.F.slot_list_append PySem.F.type_list_append hm ho ha) (da_cons (de_var 2) da_nil))) dss_nil)
  (dss_one (ds_if (DW.pt (dw_or (dt_cmp od_gt (de_callB (cd_len) (by rfl) T.z_len (by decide +kernel) (da_cons (de_var 1) da_nil)) (de_glob (v := .int 60) (by rfl) T.n_MOST_SETS ⟨_, rfl⟩ (fun _ => Rp.int _))) (dw_or1 (dt_cmp od_gt (de_callB (cd_len) (by rfl) T.z_len (by decide +kernel) (da_cons (de_ix id_ix (de_var 1) (de_un ud_neg de_int)) da_nil)) (de_glob (v := .int 400) (by rfl) T.n_MOST_STEPS ⟨_, rfl⟩ (fun _ => Rp.int _)))))) (dss_one (ds_raise PySem.F.excBase_ValueError T.ex_TooMany T.gc_TooMany T.kc_TooMany (raises_own T.sb_TooMany T.ty_TooMany) (by rfl) rfl (takes_of rfl rfl rfl rfl))) dss_nil))))
  (dss_freeze 1 (dss_one (ds_ret (de_callB (CallN.cd (cn_sortedT (hu70 hr))) (by rfl) T.z_sorted (by decide +kernel) (da_cons (de_var 1) da_nil)))))))
def D_rising : List D → Res D := fnD 1 1 (sRet (eCall tupleD (aCons (e1 BS.sortSetB (eVar 0)) aNil)))
theorem ok_rising (T : Txt K mg) : FnD P w K mg base 1 T.a_rising T.d_rising ["cells"] D_rising := fn_mk T.F_rising sc_rising fun cdv A outer s H Ex hr =>
  (dss_one (ds_ret (de_callTy (cd_tuple) (by rfl) T.z_tuple (by decide +kernel) (da_cons (DN.de (BS.dn_sortedSetB rfl (hu70 hr) (by rfl) T.z_sorted (by decide +kernel) (by rfl) T.z_set (by decide +kernel) (de_var 0))) da_nil))))
def I_joined_1 : DS → Res (List D) := (fun σ => ((eVar 0) σ).bind seqOf)
def B_joined_1 : SF := (sMut 2 extendM (aCons (eLc (fun σ => ((eVar 1) σ).bind seqOf) (gN 4) [4] tYesD (eCall D_rising (aCons (e2 addD (eVar 3) (eVar 4)) aNil))) aNil))
def D_joined : List D → Res D := fnD 5 2 (sSeq (sNew 2 (eLst aNil))
  (sSeq (sFor I_joined_1 (gN 3)
  B_joined_1)
  (sFreeze 2 (sRet (eVar 2)))))
theorem ok_joined (T : Txt K mg) : FnD P w K mg base 2 T.a_joined T.d_joined ["ones", "others"] D_joined := fn_mk T.F_joined sc_joined fun cdv A outer s H Ex hr =>
  (dss_cons (ds_new 2 sc_joined.nd rfl (by first | exact .inl rfl | exact .inr rfl) (dn_lst da_nil))
  (dss_cons (ds_for (passes_of rfl) rfl ((di_seq (de_var 0))) (dg_name (i := 3) sc_joined.nd rfl (by first | exact .inl rfl | exact .inr rfl))
  (dss_one (ds_mut 2 (isv 2) md_extend (fun hm ho ha => pe_bm PySem.F.plainAttrs_list PySem.F.slot_list_extend PySem.F.type_list_extend hm ho ha) (da_cons (DN.de (dn_lc (own := [("other", 4)]) (pt := (gN 4)) (ix := [4]) rfl sc_joined.nd (di_seq (de_var 1)) (blkOk_by (own := [("other", 4)]) (N := ["ones", "others", "found", "one", "other"]) (sc := defScope s_joined) (by decide +kernel)) (by decide) (fun _ _ _ _ _ => (dg_name (i := 4) sc_joined.nd rfl (by first | exact .inl rfl | exact .inr rfl))) (fun _ _ _ _ _ => dts_nil) (fun _ _ _ _ _ => (de_call (ok_rising T) (hr.mono (by decide)) (by rfl) T.g_rising T.F_rising.kp T.b_rising takes0 fnD_len (da_cons (de_op od_add (de_var 3) (de_var 4)) da_nil))))) da_nil))))
  (dss_freeze 2 (dss_one (ds_ret (de_var 2))))))
def I_crossed_1 : DS → Res (List D) := (fun σ => ((eVar 0) σ).bind seqOf)
def B_crossed_1 : SF := (sSet 1 (eCall D_looked (aCons (eCall D_joined (aCons (eVar 1) (aCons (eLc (fun σ => ((eVar 2) σ).bind seqOf) (gN 3) [3] tYesD (eTup (aCons (eVar 3) aNil))) aNil))) aNil)))
def D_crossed : List D → Res D := fnD 4 1 (sSeq (sSet 1 (eLst (aCons (eTup aNil) aNil)))
  (sSeq (sFor I_crossed_1 (gN 2)
  B_crossed_1)
  (sRet (eVar 1))))
theorem ok_crossed (T : Txt K mg) : FnD P w K mg base 3 T.a_crossed T.d_crossed ["sets"] D_crossed := fn_mk T.F_crossed sc_crossed fun cdv A outer s H Ex hr =>
  (dss_cons (ds_set 1 sc_crossed.nd rfl (by first | exact .inl rfl | exact .inr rfl) (DN.de (dn_lst (da_cons (de_tup da_nil) da_nil))))
  (dss_cons (ds_for (passes_of rfl) rfl ((di_seq (de_var 0))) (dg_name (i := 2) sc_crossed.nd rfl (by first | exact .inl rfl | exact .inr rfl))
  (dss_one (ds_set 1 sc_crossed.nd rfl (by first | exact .inl rfl | exact .inr rfl) (de_call (ok_looked T) (hr.mono (by decide)) (by rfl) T.g_looked T.F_looked.kp T.b_looked (takes_of rfl rfl rfl rfl) fnD_len (da_cons (de_call (ok_joined T) (hr.mono (by decide)) (by rfl) T.g_joined T.F_joined.kp T.b_joined (takes_of rfl rfl rfl rfl) fnD_len (da_cons (de_var 1) (da_cons (DN.de (dn_lc (own := [("step", 3)]) (pt := (gN 3)) (ix := [3]) rfl sc_crossed.nd (di_seq (de_var 2)) (blkOk_by (own := [("step", 3)]) (N := ["sets", "found", "one", "step"]) (sc := defScope s_crossed) (by decide +kernel)) (by decide) (fun _ _ _ _ _ => (dg_name (i := 3) sc_crossed.nd rfl (by first | exact .inl rfl | exact .inr rfl))) (fun _ _ _ _ _ => dts_nil) (fun _ _ _ _ _ => (de_tup (da_cons (de_var 3) da_nil))))) da_nil))) da_nil)))))
  (dss_one (ds_ret (de_var 1)))))
def D_law_refused : List D → Res D := fnD 3 1 (sSeq (sSet 1 (eC (.bool false)))
  (sSeq (sTry [⟨cat_MossError, some 2, (sSet 1 (e1 (isaD rel_0) (eVar 2)))⟩] (sExpr (eCall D_crossed (aCons (eVar 0) aNil))))
  (sRet (eVar 1))))
theorem ok_law_refused (T : Txt K mg) : FnD P w K mg base 4 T.a_law_refused T.d_law_refused ["sets"] D_law_refused := fn_mk T.F_law_refused sc_law_refused fun cdv A outer s H Ex hr =>
  (dss_cons (ds_set 1 sc_law_refused.nd rfl (by first | exact .inl rfl | exact .inr rfl) de_bl)
  (dss_cons (ds_try rfl rfl rfl sc_law_refused.nd (takes_of rfl rfl rfl rfl) (fun W1 pn1 xe1 t1 p1 => (dss_one (ds_expr (de_call (ok_crossed T) (hr.mono (by decide)) (by rfl) T.g_crossed T.F_crossed.kp T.b_crossed t1 fnD_len (da_cons (de_var 0) da_nil))))) (.nm (cat := cat_MossError) 2 ⟨by rfl, by decide, .inl T.gc_MossError⟩ T.k_cat_MossError rfl rfl (fun _ _ => (dss_one (ds_set 1 sc_law_refused.nd rfl (by first | exact .inl rfl | exact .inr rfl) (de_isa T.isa_0 ⟨by rfl, by decide, .inl T.gc_TooMany⟩ (.own _) T.z_isinstance (by rfl) (de_var 2))))) .nil))
  (dss_one (ds_ret (de_var 1)))))
def D_law_row : List D → Res D := fnD 5 4 (sRet (eCall tupleD (aCons (eLc (fun σ => ((aCons (eVar 1) aNil) σ).bind rng1) (gN 4) [4] tYesD (eTup (aCons (eVar 0) (aCons (e2 mulD (e2 addD (eVar 3) (eVar 4)) (eVar 2)) aNil)))) aNil)))
theorem ok_law_row (T : Txt K mg) : FnD P w K mg base 1 T.a_law_row T.d_law_row ["row", "many", "gap", "start"] D_law_row := fn_mk T.F_law_row sc_law_row fun cdv A outer s H Ex hr =>
  (dss_one (ds_ret (de_callTy (cd_tuple) (by rfl) T.z_tuple (by decide +kernel) (da_cons (DN.de (dn_lc (own := [("k", 4)]) (pt := (gN 4)) (ix := [4]) rfl sc_law_row.nd (DR.di (dr_range1 (by rfl) T.z_range (da_cons (de_var 1) da_nil))) (blkOk_by (own := [("k", 4)]) (N := ["row", "many", "gap", "start", "k"]) (sc := defScope s_law_row) (by decide +kernel)) (by decide) (fun _ _ _ _ _ => (dg_name (i := 4) sc_law_row.nd rfl (by first | exact .inl rfl | exact .inr rfl))) (fun _ _ _ _ _ => dts_nil) (fun _ _ _ _ _ => (de_tup (da_cons (de_var 0) (da_cons (de_op od_mul (de_op od_add (de_var 3) (de_var 4)) (de_var 2)) da_nil)))))) da_nil))))
def D_law_counts : List D → Res D := fnD 4 1 (sSeq (sSet 1 (e2 addD (eLc (fun σ => ((aCons (eC (.int 1)) (aCons (eC (.int 9)) aNil)) σ).bind rng2) (gN 3) [3] tYesD (eTup (aCons (eTup (aCons (eC (.int 0)) (aCons (e2 mulD (eVar 3) (eVar 0)) aNil))) aNil))) (eLst (aCons (eTup (aCons (eTup (aCons (eC (.int 0)) (aCons (eC (.int 0)) aNil))) (aCons (eTup (aCons (eC (.int 0)) (aCons (e2 mulD (eC (.int 9)) (eVar 0)) aNil))) aNil))) aNil))))
  (sSeq (sIf (tB (e2 neD (eCall D_crossed (aCons (eLst (aCons (eCall D_law_row (aCons (eC (.int 0)) (aCons (eC (.int 9)) (aCons (eVar 0) (aCons (eC (.int 0)) aNil))))) (aCons (eCall D_law_row (aCons (eC (.int 0)) (aCons (eC (.int 9)) (aCons (eVar 0) (aCons (eC (.int 1)) aNil))))) aNil))) aNil)) (eCall sortedD (aCons (eVar 1) aNil)))) (sRet (eC (.bool false))) sNil)
  (sSeq (sIf (tB (e2 neD (eCall lenD (aCons (eCall D_crossed (aCons (eLst (aCons (eCall D_law_row (aCons (eC (.int 1)) (aCons (eC (.int 5)) (aCons (eVar 0) (aCons (eC (.int 0)) aNil))))) (aCons (eCall D_law_row (aCons (eC (.int 2)) (aCons (eC (.int 12)) (aCons (eVar 0) (aCons (eC (.int 3)) aNil))))) aNil))) aNil)) aNil)) (eC (.int 60)))) (sRet (eC (.bool false))) sNil)
  (sSeq (sSet 2 (eTup (aCons (eTup (aCons (eC (.int 5)) (aCons (eC (.int 5)) aNil))) aNil)))
  (sRet (eCall D_law_refused (aCons (eLst (aCons (e2 addD (eCall D_law_row (aCons (eC (.int 3)) (aCons (eC (.int 6)) (aCons (eVar 0) (aCons (eC (.int 0)) aNil))))) (eVar 2)) (aCons (e2 addD (eCall D_law_row (aCons (eC (.int 4)) (aCons (eC (.int 10)) (aCons (eVar 0) (aCons (eC (.int 2)) aNil))))) (eVar 2)) aNil))) aNil)))))))
theorem ok_law_counts (T : Txt K mg) : FnD P w K mg base 5 T.a_law_counts T.d_law_counts ["gap"] D_law_counts := fn_mk T.F_law_counts sc_law_counts fun cdv A outer s H Ex hr =>
  (dss_cons (ds_set 1 sc_law_counts.nd rfl (by first | exact .inl rfl | exact .inr rfl) (de_op od_add (DN.de (dn_lc (own := [("k", 3)]) (pt := (gN 3)) (ix := [3]) rfl sc_law_counts.nd (DR.di (dr_range2 (by rfl) T.z_range (da_cons de_int (da_cons de_int da_nil)))) (blkOk_by (own := [("k", 3)]) (N := ["gap", "due", "more", "k"]) (sc := defScope s_law_counts) (by decide +kernel)) (by decide) (fun _ _ _ _ _ => (dg_name (i := 3) sc_law_counts.nd rfl (by first | exact .inl rfl | exact .inr rfl))) (fun _ _ _ _ _ => dts_nil) (fun _ _ _ _ _ => (de_tup (da_cons (de_tup (da_cons de_int (da_cons (de_op od_mul (de_var 3) (de_var 0)) da_nil))) da_nil))))) (DN.de (dn_lst (da_cons (de_tup (da_cons (de_tup (da_cons de_int (da_cons de_int da_nil))) (da_cons (de_tup (da_cons de_int (da_cons (de_op od_mul de_int (de_var 0)) da_nil))) da_nil))) da_nil)))))
  (dss_cons (ds_if (dt_cmp (od_ne (hu64 hr)) (de_call (ok_crossed T) (hr.mono (by decide)) (by rfl) T.g_crossed T.F_crossed.kp T.b_crossed (takes_of rfl rfl rfl rfl) fnD_len (da_cons (DN.de (dn_lst (da_cons (de_call (ok_law_row T) (hr.mono (by decide)) (by rfl) T.g_law_row T.F_law_row.kp T.b_law_row (takes_of rfl rfl rfl rfl) fnD_len (da_cons de_int (da_cons de_int (da_cons (de_var 0) (da_cons de_int da_nil))))) (da_cons (de_call (ok_law_row T) (hr.mono (by decide)) (by rfl) T.g_law_row T.F_law_row.kp T.b_law_row (takes_of rfl rfl rfl rfl) fnD_len (da_cons de_int (da_cons de_int (da_cons (de_var 0) (da_cons de_int da_nil))))) da_nil)))) da_nil)) (de_callB (CallN.cd (cn_sorted (hu70 hr))) (by rfl) T.z_sorted (by decide +kernel) (da_cons (de_var 1) da_nil))) (dss_one (ds_ret de_bl)) dss_nil)
  (dss_cons (ds_if (dt_cmp (od_ne (hu64 hr)) (de_callB (cd_len) (by rfl) T.z_len (by decide +kernel) (da_cons (de_call (ok_crossed T) (hr.mono (by decide)) (by rfl) T.g_crossed T.F_crossed.kp T.b_crossed (takes_of rfl rfl rfl rfl) fnD_len (da_cons (DN.de (dn_lst (da_cons (de_call (ok_law_row T) (hr.mono (by decide)) (by rfl) T.g_law_row T.F_law_row.kp T.b_law_row (takes_of rfl rfl rfl rfl) fnD_len (da_cons de_int (da_cons de_int (da_cons (de_var 0) (da_cons de_int da_nil))))) (da_cons (de_call (ok_law_row T) (hr.mono (by decide)) (by rfl) T.g_law_row T.F_law_row.kp T.b_law_row (takes_of rfl rfl rfl rfl) fnD_len (da_cons de_int (da_cons de_int (da_cons (de_var 0) (da_cons de_int da_nil))))) da_nil)))) da_nil)) da_nil)) de_int) (dss_one (ds_ret de_bl)) dss_nil)
  (dss_cons (ds_set 2 sc_law_counts.nd rfl (by first | exact .inl rfl | exact .inr rfl) (de_tup (da_cons (de_tup (da_cons de_int (da_cons de_int da_nil))) da_nil)))
  (dss_one (ds_ret (de_call (ok_law_refused T) (hr.mono (by decide)) (by rfl) T.g_law_refused T.F_law_refused.kp T.b_law_refused (takes_of rfl rfl rfl rfl) fnD_len (da_cons (DN.de (dn_lst (da_cons (de_op od_add (de_call (ok_law_row T) (hr.mono (by decide)) (by rfl) T.g_law_row T.F_law_row.kp T.b_law_row (takes_of rfl rfl rfl rfl) fnD_len (da_cons de_int (da_cons de_int (da_cons (de_var 0) (da_cons de_int da_nil))))) (de_var 2)) (da_cons (de_op od_add (de_call (ok_law_row T) (hr.mono (by decide)) (by rfl) T.g_law_row T.F_law_row.kp T.b_law_row (takes_of rfl rfl rfl rfl) fnD_len (da_cons de_int (da_cons de_int (da_cons (de_var 0) (da_cons de_int da_nil))))) (de_var 2)) da_nil)))) da_nil))))))))
def D_law_whole : List D → Res D := fnD 1 1 (sRet (eAnd (e1 (isiD "int") (eVar 0)) (e1 notD (e1 (isiD "bool") (eVar 0)))))
theorem ok_law_whole (T : Txt K mg) : FnD P w K mg base 1 T.a_law_whole T.d_law_whole ["found"] D_law_whole := fn_mk T.F_law_whole sc_law_whole fun cdv A outer s H Ex hr =>
  (dss_one (ds_ret (de_and (de_isi tok_int T.z_isinstance (by rfl) (de_var 0) (by rfl) T.z_int (by decide +kernel)) (de_one (de_not (de_isi tok_bool T.z_isinstance (by rfl) (de_var 0) (by rfl) T.z_bool (by decide +kernel)))))))
def I_law_is_sets_1 : DS → Res (List D) := (fun σ => ((eVar 2) σ).bind seqOf)
def B_law_is_sets_1 : SF := (sIf (E3.tOr (E3.tNot (E3.tB (e1 (isiD "tuple") (eVar 3)))) (E3.tOr (E3.tNot (E3.tB (eCall D_law_whole (aCons (e2 ixD (eVar 3) (eC (.int 0))) aNil)))) (E3.tNot (E3.tB (eCall D_law_whole (aCons (e2 ixD (eVar 3) (eC (.int 1))) aNil)))))) (sRet (eC (.bool false))) sNil)
def I_law_is_sets_2 : DS → Res (List D) := (fun σ => ((eVar 0) σ).bind seqOf)
def B_law_is_sets_2 : SF := (sSeq (sIf (E3.tNot (E3.tB (e1 (isiD "tuple") (eVar 2)))) (sRet (eC (.bool false))) sNil)
  (sFor I_law_is_sets_1 (gN 3)
  B_law_is_sets_1))
def D_law_is_sets : List D → Res D := fnD 4 2 (sSeq (sIf (E3.tOr (E3.tNot (E3.tB (e1 (isiD "list") (eVar 0)))) (tB (e2 neD (eVar 0) (eVar 1)))) (sRet (eC (.bool false))) sNil)
  (sSeq (sFor I_law_is_sets_2 (gN 2)
  B_law_is_sets_2)
  (sRet (eC (.bool true)))))
theorem ok_law_is_sets (T : Txt K mg) : FnD P w K mg base 2 T.a_law_is_sets T.d_law_is_sets ["found", "due"] D_law_is_sets := fn_mk T.F_law_is_sets sc_law_is_sets fun cdv A outer s H Ex hr =>
  (dss_cons (ds_if (DW.pt (dw_or (dt_not (dt_val (de_isi tok_list T.z_isinstance (by rfl) (de_var 0) (by rfl) T.z_list (by decide +kernel)))) (dw_or1 (dt_cmp (od_ne (hu64 hr)) (de_var 0) (de_var 1))))) (dss_one (ds_ret de_bl)) dss_nil)
  (dss_cons (ds_for (passes_of rfl) rfl ((di_seq (de_var 0))) (dg_name (i := 2) sc_law_is_sets.nd rfl (by first | exact .inl rfl | exact .inr rfl))
  (dss_cons (ds_if (dt_not (dt_val (de_isi tok_tuple T.z_isinstance (by rfl) (de_var 2) (by rfl) T.z_tuple (by decide +kernel)))) (dss_one (ds_ret de_bl)) dss_nil)
  (dss_one (ds_for (passes_of rfl) rfl ((di_seq (de_var 2))) (dg_name (i := 3) sc_law_is_sets.nd rfl (by first | exact .inl rfl | exact .inr rfl))
  (dss_one (ds_if (DW.pt (dw_or (dt_not (dt_val (de_isi tok_tuple T.z_isinstance (by rfl) (de_var 3) (by rfl) T.z_tuple (by decide +kernel)))) (dw_or (dt_not (dt_val (de_call (ok_law_whole T) (hr.mono (by decide)) (by rfl) T.g_law_whole T.F_law_whole.kp T.b_law_whole (takes_of rfl rfl rfl rfl) fnD_len (da_cons (de_ix id_ix (de_var 3) de_int) da_nil)))) (dw_or1 (dt_not (dt_val (de_call (ok_law_whole T) (hr.mono (by decide)) (by rfl) T.g_law_whole T.F_law_whole.kp T.b_law_whole (takes_of rfl rfl rfl rfl) fnD_len (da_cons (de_ix id_ix (de_var 3) de_int) da_nil)))))))) (dss_one (ds_ret de_bl)) dss_nil))))))
  (dss_one (ds_ret de_bl))))
def I_law_less_1 : DS → Res (List D) := (fun σ => ((aCons (eVar 2) aNil) σ).bind rng1)
def B_law_less_1 : SF := (sIf (E3.tAnd (tB (e2 eqD (e2 andD (e2 shrD (eVar 1) (eVar 3)) (eC (.int 1))) (eC (.int 1)))) (E3.tB (e2 ixD (eVar 0) (e2 subD (eVar 1) (e2 shlD (eC (.int 1)) (eVar 3)))))) (sRet (eC (.bool true))) sNil)
def D_law_less : List D → Res D := fnD 4 3 (sSeq (sFor I_law_less_1 (gN 3)
  B_law_less_1)
  (sRet (eC (.bool false))))
theorem ok_law_less (T : Txt K mg) : FnD P w K mg base 1 T.a_law_less T.d_law_less ["good", "bits", "many"] D_law_less := fn_mk T.F_law_less sc_law_less fun cdv A outer s H Ex hr =>
  (dss_cons (ds_for (passes_of rfl) rfl ((DR.di (dr_range1 (by rfl) T.z_range (da_cons (de_var 2) da_nil)))) (dg_name (i := 3) sc_law_less.nd rfl (by first | exact .inl rfl | exact .inr rfl))
  (dss_one (ds_if (DW.pt (dw_and (dt_cmp (od_eq (hu64 hr)) (de_op od_and (de_op od_shr (de_var 1) (de_var 3)) de_int) de_int) (dw_and1 (dt_val (de_ix id_ix (de_var 0) (de_op od_sub (de_var 1) (de_op od_shl de_int (de_var 3)))))))) (dss_one (ds_ret de_bl)) dss_nil)))
  (dss_one (ds_ret de_bl)))
def I_law_due_1 : DS → Res (List D) := (fun σ => ((aCons (eC (.int 64)) aNil) σ).bind rng1)
def B_law_due_1 : SF := (sSeq (sSet 5 (eCall D_law_subset (aCons (eVar 1) (aCons (eVar 4) aNil))))
  (sSeq (sMut 2 appendM (aCons (eCall allD (aCons (eLc (fun σ => ((eVar 0) σ).bind seqOf) (gN 6) [6] tYesD (eCall anyD (aCons (eLc (fun σ => ((eVar 5) σ).bind seqOf) (gN 7) [7] tYesD (e2 inG (eVar 7) (eVar 6))) aNil))) aNil)) aNil))
  (sIf (E3.tAnd (E3.tB (e2 ixD (eVar 2) (eVar 4))) (E3.tNot (E3.tB (eCall D_law_less (aCons (eVar 2) (aCons (eVar 4) (aCons (eC (.int 6)) aNil))))))) (sMut 3 appendM (aCons (eVar 5) aNil)) sNil)))
def T_law_due_1 : SF := (sFreeze 2 (sFreeze 3 (sRet (eCall sortedTD (aCons (eVar 3) aNil)))))
def D_law_due : List D → Res D := fnD 8 2 (sSeq (sNew 2 (eLst aNil))
  (sSeq (sNew 3 (eLst aNil))
  (sSeq (sFor I_law_due_1 (gN 4)
  B_law_due_1)
  T_law_due_1)))
theorem ok_law_due (T : Txt K mg) : FnD P w K mg base 2 T.a_law_due T.d_law_due ["sets", "window"] D_law_due := fn_mk T.F_law_due sc_law_due fun cdv A outer s H Ex hr =>
  (dss_cons (ds_new 2 sc_law_due.nd rfl (by first | exact .inl rfl | exact .inr rfl) (dn_lst da_nil))
  (dss_cons (ds_new 3 sc_law_due.nd rfl (by first | exact .inl rfl | exact .inr rfl) (dn_lst da_nil))
  (dss_cons (ds_for (passes_of rfl) rfl ((DR.di (dr_range1 (by rfl) T.z_range (da_cons de_int da_nil)))) (dg_name (i := 4) sc_law_due.nd rfl (by first | exact .inl rfl | exact .inr rfl))
  (dss_cons (ds_set 5 sc_law_due.nd rfl (by first | exact .inl rfl | exact .inr rfl) (de_call (ok_law_subset T) (hr.mono (by decide)) (by rfl) T.g_law_subset T.F_law_subset.kp T.b_law_subset (takes_of rfl rfl rfl rfl) fnD_len (da_cons (de_var 1) (da_cons (de_var 4) da_nil))))
  (dss_cons (ds_mut 2 (isv 2) md_append (fun hm ho ha => pe_bm PySem.F.plainAttrs_list PySem.F.slot_list_append PySem.F.type_list_append hm ho ha) (da_cons (de_callB (cd_all rfl) (by rfl) T.z_all (by decide +kernel) (da_cons (DN.de (dn_lc (own := [("one", 6)]) (pt := (gN 6)) (ix := [6]) rfl sc_law_due.nd (di_seq (de_var 0)) (blkOk_by (own := [("one", 6)]) (N := ["sets", "window", "good", "found", "bits", "steps", "one", "step"]) (sc := defScope s_law_due) (by decide +kernel)) (by decide) (fun _ _ _ _ _ => (dg_name (i := 6) sc_law_due.nd rfl (by first | exact .inl rfl | exact .inr rfl))) (fun _ _ _ _ _ => dts_nil) (fun _ _ _ _ _ => (de_callB (cd_any rfl) (by rfl) T.z_any (by decide +kernel) (da_cons (DN.de (dn_lc (own := [("step", 7)]) (pt := (gN 7)) (ix := [7]) rfl sc_law_due.nd (di_seq (de_var 5)) (blkOk_by (own := [("step", 7)]) (N := ["sets", "window", "good", "found", "bits", "steps", "one", "step"]) (sc := { kind := .function, names := [(".0", .local), ("one", .cell), ("any", .globalImplicit), ("steps", .cell)], isGenerator := false, isCoroutine := false }) (by decide +kernel)) (by decide) (fun _ _ _ _ _ => (dg_name (i := 7) sc_law_due.nd rfl (by first | exact .inl rfl | exact .inr rfl))) (fun _ _ _ _ _ => dts_nil) (fun _ _ _ _ _ => (de_cmp (od_inG (hu65 hr)) (de_var 7) (de_var 6))))) da_nil))))) da_nil)) da_nil))
  (dss_one (ds_if (DW.pt (dw_and (dt_val (de_ix id_ix (de_var 2) (de_var 4))) (dw_and1 (dt_not (dt_val (de_call (ok_law_less T) (hr.mono (by decide)) (by rfl) T.g_law_less T.F_law_less.kp T.b_law_less (takes_of rfl rfl rfl rfl) fnD_len (da_cons (de_var 2) (da_cons (de_var 4) (da_cons de_int da_nil))))))))) (dss_one (ds_mut 3 (isv 3) md_append (fun hm ho ha => pe_bm PySem.F.plainAttrs_list PySem.F.slot_list_append PySem.F.type_list_append hm ho ha) (da_cons (de_var 5) da_nil))) dss_nil)))))
  (dss_freeze 2 (dss_freeze 3 (dss_one (ds_ret (de_callB (CallN.cd (cn_sortedT (hu70 hr))) (by rfl) T.z_sorted (by decide +kernel) (da_cons (de_var 3) da_nil)))))))))
def I_law_1 : DS → Res (List D) := (fun σ => ((e2 addD (eSl (eVar 0) oNone (oSome (eC (.int 12)))) (eLst (aCons (eC (.int 0)) aNil))) σ).bind seqOf)
def B_law_1 : SF := (sSeq (sAsg (gT 2 (gsCons (gN 2) (gsCons (gN 3) gsNil))) (eCall divmodD (aCons (eCall D_law_deal (aCons (eVar 1) (aCons (eC (.int 10)) aNil))) (aCons (eC (.int 2)) aNil))))
  (sSeq (sAsg (gT 2 (gsCons (gN 2) (gsCons (gN 4) gsNil))) (eCall divmodD (aCons (eVar 2) (aCons (e2 ixD (eLst (aCons (eC (.int 1)) (aCons (e2 powD (eC (.int 10)) (eC (.int 6))) aNil))) (eVar 3)) aNil))))
  (sSeq (sSet 5 (eLc (fun σ => ((aCons (eC (.int 6)) aNil) σ).bind rng1) (gN 10) [10] tYesD (eTup (aCons (e2 subD (e2 mulD (eVar 10) (e2 addD (eC (.int 1)) (eVar 4))) (eC (.int 3))) (aCons (e2 modD (e2 addD (e2 mulD (eVar 10) (eVar 10)) (eVar 2)) (eC (.int 7))) aNil)))))
  (sSeq (sAsg (gT 2 (gsCons (gN 2) (gsCons (gN 6) gsNil))) (eCall D_law_sets (aCons (eVar 2) (aCons (eVar 5) aNil))))
  (sSeq (sSet 7 (e2 ixD (eLst (aCons (eCall listD (aCons (eVar 6) aNil)) (aCons (eCall tupleD (aCons (eVar 6) aNil)) aNil))) (e2 modD (eVar 2) (eC (.int 2)))))
  (sSeq (sSet 8 (eCall D_crossed (aCons (eVar 7) aNil)))
  (sIf (E3.tOr (E3.tNot (E3.tB (eCall D_law_is_sets (aCons (eVar 8) (aCons (eCall D_law_due (aCons (eVar 6) (aCons (eVar 5) aNil))) aNil))))) (tB (e2 neD (eCall listD (aCons (eVar 7) aNil)) (eVar 6)))) (sRet (eC (.bool false))) sNil)))))))
def T_law_1 : SF := (sSeq (sSet 2 (eCall D_law_deal (aCons (eCall sumD (aCons (eVar 0) aNil)) (aCons (eC (.int 6)) aNil))))
  (sSeq (sIf (E3.tNot (E3.tB (eCall D_law_counts (aCons (e2 addD (eC (.int 1)) (e2 modD (eVar 2) (eC (.int 1000)))) aNil)))) (sRet (eC (.bool false))) sNil)
  (sSeq (sSet 9 (eCall D_law_pairs (aCons (eVar 2) aNil)))
  (sSeq (sIf (E3.tOr (E3.tNot (E3.tB (eCall D_law_refused (aCons (eVar 9) aNil)))) (E3.tOr (E3.tNot (E3.tB (eCall D_law_refused (aCons (e2 addD (eVar 9) (eLst (aCons (eTup aNil) aNil))) aNil)))) (E3.tNot (E3.tB (eCall D_law_refused (aCons (eSl (eVar 9) oNone (oSome (eC (.int 6)))) aNil)))))) (sRet (eC (.bool false))) sNil)
  (sRet (eAnd (e2 eqD (eCall D_crossed (aCons (e2 addD (eLst (aCons (eTup aNil) aNil)) (eVar 9)) aNil)) (eLst aNil)) (e2 eqD (eCall lenD (aCons (eCall D_crossed (aCons (eSl (eVar 9) oNone (oSome (eC (.int 5)))) aNil)) aNil)) (eC (.int 32)))))))))
def D_law : List D → Res D := fnD 11 1 (sSeq (sFor I_law_1 (gN 1)
  B_law_1)
  T_law_1)
theorem ok_law (T : Txt K mg) : FnD P w K mg base 6 T.a_law T.d_law ["script"] D_law := fn_mk T.F_law sc_law fun cdv A outer s H Ex hr =>
  (dss_cons (ds_for (passes_of rfl) rfl ((di_seq (de_op od_add (de_slice (de_var 0) do_none (do_some de_int)) (DN.de (dn_lst (da_cons de_int da_nil)))))) (dg_name (i := 1) sc_law.nd rfl (by first | exact .inl rfl | exact .inr rfl))
  (dss_cons (ds_asg (de_callB (cd_divmod) (by rfl) T.z_divmod (by decide +kernel) (da_cons (de_call (ok_law_deal T) (hr.mono (by decide)) (by rfl) T.g_law_deal T.F_law_deal.kp T.b_law_deal (takes_of rfl rfl rfl rfl) fnD_len (da_cons (de_var 1) (da_cons de_int da_nil))) (da_cons de_int da_nil))) (dg_tup rfl (dgs_cons (dg_name (i := 2) sc_law.nd rfl (by first | exact .inl rfl | exact .inr rfl)) (dgs_cons (dg_name (i := 3) sc_law.nd rfl (by first | exact .inl rfl | exact .inr rfl)) dgs_nil))))
  (dss_cons (ds_asg (de_callB (cd_divmod) (by rfl) T.z_divmod (by decide +kernel) (da_cons (de_var 2) (da_cons (de_ix id_ix (DN.de (dn_lst (da_cons de_int (da_cons (de_op od_pow de_int de_int) da_nil)))) (de_var 3)) da_nil))) (dg_tup rfl (dgs_cons (dg_name (i := 2) sc_law.nd rfl (by first | exact .inl rfl | exact .inr rfl)) (dgs_cons (dg_name (i := 4) sc_law.nd rfl (by first | exact .inl rfl | exact .inr rfl)) dgs_nil))))
  (dss_cons (ds_setLc 5 (own := [("k", 10)]) (pt := (gN 10)) (ix := [10]) rfl sc_law.nd rfl rfl (sw_true rfl rfl rfl (by decide +kernel)) (DR.di (dr_range1 (by rfl) T.z_range (da_cons de_int da_nil))) (blkOk_by (own := [("k", 10)]) (N := ["script", "cell", "number", "size", "far", "window", "sets", "handed", "found", "pairs", "k"]) (sc := defScope s_law) (by decide +kernel)) (by decide) (fun _ _ _ _ _ => (dg_name (i := 10) sc_law.nd rfl (by first | exact .inl rfl | exact .inr rfl))) (fun _ _ _ _ _ => dts_nil) (fun _ _ _ _ _ => (de_tup (da_cons (de_op od_sub (de_op od_mul (de_var 10) (de_op od_add de_int (de_var 4))) de_int) (da_cons (de_op od_mod (de_op od_add (de_op od_mul (de_var 10) (de_var 10)) (de_var 2)) de_int) da_nil)))))
  (dss_cons (ds_asg (de_call (ok_law_sets T) (hr.mono (by decide)) (by rfl) T.g_law_sets T.F_law_sets.kp T.b_law_sets (takes_of rfl rfl rfl rfl) fnD_len (da_cons (de_var 2) (da_cons (de_var 5) da_nil))) (dg_tup rfl (dgs_cons (dg_name (i := 2) sc_law.nd rfl (by first | exact .inl rfl | exact .inr rfl)) (dgs_cons (dg_name (i := 6) sc_law.nd rfl (by first | exact .inl rfl | exact .inr rfl)) dgs_nil))))
  (dss_cons (ds_set 7 sc_law.nd rfl (by first | exact .inl rfl | exact .inr rfl) (de_ix id_ix (DN.de (dn_lst (da_cons (de_callTy (cd_list) (by rfl) T.z_list (by decide +kernel) (da_cons (de_var 6) da_nil)) (da_cons (de_callTy (cd_tuple) (by rfl) T.z_tuple (by decide +kernel) (da_cons (de_var 6) da_nil)) da_nil)))) (de_op od_mod (de_var 2) de_int)))
  (dss_cons (ds_set 8 sc_law.nd rfl (by first | exact .inl rfl | exact .inr rfl) (de_call (ok_crossed T) (hr.mono (by decide)) (by rfl) T.g_crossed T.F_crossed.kp T.b_crossed (takes_of rfl rfl rfl rfl) fnD_len (da_cons (de_var 7) da_nil)))
  (dss_one (ds_if (DW.pt (dw_or (dt_not (dt_val (de_call (ok_law_is_sets T) (hr.mono (by decide)) (by rfl) T.g_law_is_sets T.F_law_is_sets.kp T.b_law_is_sets (takes_of rfl rfl rfl rfl) fnD_len (da_cons (de_var 8) (da_cons (de_call (ok_law_due T) (hr.mono (by decide)) (by rfl) T.g_law_due T.F_law_due.kp T.b_law_due (takes_of rfl rfl rfl rfl) fnD_len (da_cons (de_var 6) (da_cons (de_var 5) da_nil))) da_nil))))) (dw_or1 (dt_cmp (od_ne (hu64 hr)) (de_callTy (cd_list) (by rfl) T.z_list (by decide +kernel) (da_cons (de_var 7) da_nil)) (de_var 6))))) (dss_one (ds_ret de_bl)) dss_nil)))))))))
  (dss_cons (ds_set 2 sc_law.nd rfl (by first | exact .inl rfl | exact .inr rfl) (de_call (ok_law_deal T) (hr.mono (by decide)) (by rfl) T.g_law_deal T.F_law_deal.kp T.b_law_deal (takes_of rfl rfl rfl rfl) fnD_len (da_cons (de_callB (cd_sum rfl) (by rfl) T.z_sum (by decide +kernel) (da_cons (de_var 0) da_nil)) (da_cons de_int da_nil))))
  (dss_cons (ds_if (dt_not (dt_val (de_call (ok_law_counts T) (hr.mono (by decide)) (by rfl) T.g_law_counts T.F_law_counts.kp T.b_law_counts (takes_of rfl rfl rfl rfl) fnD_len (da_cons (de_op od_add de_int (de_op od_mod (de_var 2) de_int)) da_nil)))) (dss_one (ds_ret de_bl)) dss_nil)
  (dss_cons (ds_set 9 sc_law.nd rfl (by first | exact .inl rfl | exact .inr rfl) (de_call (ok_law_pairs T) (hr.mono (by decide)) (by rfl) T.g_law_pairs T.F_law_pairs.kp T.b_law_pairs (takes_of rfl rfl rfl rfl) fnD_len (da_cons (de_var 2) da_nil)))
  (dss_cons (ds_if (DW.pt (dw_or (dt_not (dt_val (de_call (ok_law_refused T) (hr.mono (by decide)) (by rfl) T.g_law_refused T.F_law_refused.kp T.b_law_refused (takes_of rfl rfl rfl rfl) fnD_len (da_cons (de_var 9) da_nil)))) (dw_or (dt_not (dt_val (de_call (ok_law_refused T) (hr.mono (by decide)) (by rfl) T.g_law_refused T.F_law_refused.kp T.b_law_refused (takes_of rfl rfl rfl rfl) fnD_len (da_cons (de_op od_add (de_var 9) (DN.de (dn_lst (da_cons (de_tup da_nil) da_nil)))) da_nil)))) (dw_or1 (dt_not (dt_val (de_call (ok_law_refused T) (hr.mono (by decide)) (by rfl) T.g_law_refused T.F_law_refused.kp T.b_law_refused (takes_of rfl rfl rfl rfl) fnD_len (da_cons (de_slice (de_var 9) do_none (do_some de_int)) da_nil)))))))) (dss_one (ds_ret de_bl)) dss_nil)
  (dss_one (ds_ret (de_and (de_cmp (od_eq (hu64 hr)) (de_call (ok_crossed T) (hr.mono (by decide)) (by rfl) T.g_crossed T.F_crossed.kp T.b_crossed (takes_of rfl rfl rfl rfl) fnD_len (da_cons (de_op od_add (DN.de (dn_lst (da_cons (de_tup da_nil) da_nil))) (de_var 9)) da_nil)) (DN.de (dn_lst da_nil))) (de_one (de_cmp (od_eq (hu64 hr)) (de_callB (cd_len) (by rfl) T.z_len (by decide +kernel) (da_cons (de_call (ok_crossed T) (hr.mono (by decide)) (by rfl) T.g_crossed T.F_crossed.kp T.b_crossed (takes_of rfl rfl rfl rfl) fnD_len (da_cons (de_slice (de_var 9) do_none (do_some de_int)) da_nil)) da_nil)) de_int))))))))))
end
end
end K54
namespace E3
open PySem PySem.Spec PyProof.Rows L2
local macro_rules | `(tactic| walk_at "ev") => `(tactic| simp only [fnD, startF, endF, sSeq, sAsg, sSet, sSetV, sAsgV, sIf, sRet, sNew, sMut, sMutV, sFor, sForR, sFreeze, sNil, optK, thenR_ok, thenR_exc, thenR_stuck,
  view, mask, eVar, eC, e1, e2, eCall, eTup, eLst, eSl, oNone, oSome, eAnd, eOr, eIf, E3.tAnd, E3.tOr, E3.tNot, E3.tB, asB, notD, aNil, aCons, Res.bind_ok, Res.bind_exc, Res.bind_stuck,
  gT, gsCons, gsNil, gN, tupD, lstD, Slot.dat, Slot.shd, List.length_cons, List.length_nil, List.map_cons, List.map_nil, List.replicate, List.append_nil, List.cons_append, List.nil_append, Option.map_some, Option.map_none, Option.bind_some, Option.bind_none,
  List.getElem?_cons_zero, List.getElem?_cons_succ, List.set_cons_zero, List.set_cons_succ, Nat.reduceAdd, Nat.reduceSub, Nat.reduceEqDiff, if_true, if_false, ite_true, ite_false, reduceIte, decide_true, decide_false, reduceCtorEq])
abbrev cell (r c : Int) : D := .tuple [.int r, .int c]
theorem ix_cell0 (a b : D) : ixD (.tuple [a, b]) (.int 0) = .ok a := rfl
theorem ix_cell1 (a b : D) : ixD (.tuple [a, b]) (.int 1) = .ok b := rfl
theorem addI (i j : Int) : addD (.int i) (.int j) = .ok (.int (i + j)) := rfl
theorem subI (i j : Int) : subD (.int i) (.int j) = .ok (.int (i - j)) := rfl
theorem ltI (i j : Int) : ltD (.int i) (.int j) = .ok (.bool (decide (i < j))) := rfl
theorem leI (i j : Int) : leD (.int i) (.int j) = .ok (.bool (decide (i ≤ j))) := rfl
theorem gtI (i j : Int) : gtD (.int i) (.int j) = .ok (.bool (decide (j < i))) := rfl
theorem geI (i j : Int) : geD (.int i) (.int j) = .ok (.bool (decide (j ≤ i))) := rfl
theorem iop_ok {c : Int → Int → Bool} {g : Int → Int → D} {i j : Int} (h : c i j = true) : iop c g (.int i) (.int j) = .ok (g i j) := by
  show (if _ then _ else _) = _
  rw [if_pos h]
theorem powI {i j : Int} (h : decide (0 ≤ j ∧ j ≤ 1000000 ∧ i.natAbs < 2 ^ 64) = true) : powD (.int i) (.int j) = .ok (.int (i ^ j.toNat)) := iop_ok h
theorem mulI {i j : Int} (a b : Nat) (hi : i.natAbs < 2 ^ a) (hj : j.natAbs < 2 ^ b) (h : a + b < 1000000) : mulD (.int i) (.int j) = .ok (.int (i * j)) :=
  iop_ok (decide_eq_true (by
    have lg : ∀ n k : Nat, n < 2 ^ k → n.log2 ≤ k := fun n k h => by
      by_cases z : n = 0
      · subst z; simp
      · exact Nat.le_of_lt ((Nat.log2_lt z).mpr h)
    have := lg _ _ hi
    have := lg _ _ hj
    omega))
theorem modI {i j : Int} (h : 0 < j) : modD (.int i) (.int j) = .ok (.int (i % j)) := iop_ok (decide_eq_true h)
theorem fdivI {i j : Int} (h : 0 < j) (h2 : j.natAbs.log2 < 9000) : fdivD (.int i) (.int j) = .ok (.int (i / j)) := iop_ok (decide_eq_true ⟨h, h2⟩)
theorem divmodI {i j : Int} (h : 0 < j) (h2 : j.natAbs.log2 < 9000) : divmodD [.int i, .int j] = .ok (.tuple [.int (i / j), .int (i % j)]) := by
  show (if _ then _ else _) = _
  rw [if_pos ⟨h, h2⟩]
theorem log2_lt {j : Int} (k : Nat) (h : j.natAbs < 2 ^ k) (hk : k ≤ 9000) (h0 : 0 < j) : j.natAbs.log2 < 9000 := by
  have : j.natAbs ≠ 0 := by omega
  have := (Nat.log2_lt this).mpr h
  omega
def dealB : SF := (sSeq (sSet 3 (e2 modD (e2 addD (e2 addD (e2 mulD (eVar 3) (eC (.int 48271))) (eVar 4)) (eC (.int 1))) (eC (.int 2147483647))))
  (sSeq (sSet 5 (e2 modD (e2 mulD (eVar 3) (eVar 3)) (eC (.int 2147483629))))
  (sSet 2 (e2 addD (e2 mulD (eVar 2) (eC (.int 999983))) (e2 modD (e2 addD (e2 fdivD (eVar 5) (eC (.int 1021))) (eVar 5)) (eC (.int 999983)))))))
def lawDeal : List D → Res D := fnD 6 2 (sSeq (sIf (tB (e2 geD (eVar 0) (e2 powD (eC (.int 10)) (eC (.int 18))))) (sRet (e2 subD (eVar 0) (e2 powD (eC (.int 10)) (eC (.int 18))))) sNil)
  (sSeq (sSet 2 (eC (.int 0)))
  (sSeq (sSet 3 (e2 modD (e2 mulD (e2 addD (e2 modD (eVar 0) (eC (.int 2147483647))) (eC (.int 977))) (eC (.int 69621))) (eC (.int 2147483647))))
  (sSeq (sFor (fun σ => ((aCons (eVar 1) aNil) σ).bind rng1) (gN 4) dealB)
  (sRet (eVar 2))))))
theorem deal_turn (c m k number one : Int) (x4 x5 : Option Slot) (b : Nat) (h0 : 0 ≤ number) (hb : number < 2 ^ b) (ho : 0 ≤ one ∧ one < 2147483647) (hl : b + 20 < 999990) :
    ∃ number' one' : Int, ∃ x5' : Option Slot, 0 ≤ number' ∧ number' < 2 ^ (b + 20) ∧ (0 ≤ one' ∧ one' < 2147483647) ∧
      dealB [some (.sh (.int c)), some (.sh (.int m)), some (.sh (.int number)), some (.sh (.int one)), some (.sh (.int k)), x5]
      = .ok .nx [some (.sh (.int c)), some (.sh (.int m)), some (.sh (.int number')), some (.sh (.int one')), some (.sh (.int k)), x5'] := by
  unfold dealB
  walk_at "ev"
  rw [mulI 32 20 (by omega) (by decide) (by decide)]
  walk_at "ev"
  simp only [addI, Res.bind_ok]
  rw [modI (by decide)]
  walk_at "ev"
  have hm : 0 ≤ (one * 48271 + k + 1) % 2147483647 ∧ (one * 48271 + k + 1) % 2147483647 < 2147483647 := ⟨Int.emod_nonneg _ (by decide), Int.emod_lt_of_pos _ (by decide)⟩
  generalize (one * 48271 + k + 1) % 2147483647 = o at hm ⊢
  rw [mulI 32 32 (by omega) (by omega) (by decide)]
  walk_at "ev"
  rw [modI (by decide)]
  walk_at "ev"
  have hm2 : 0 ≤ o * o % 2147483629 ∧ o * o % 2147483629 < 2147483629 := ⟨Int.emod_nonneg _ (by decide), Int.emod_lt_of_pos _ (by decide)⟩
  generalize o * o % 2147483629 = t at hm2 ⊢
  rw [mulI b 20 (by have : ((number.natAbs : Nat) : Int) = number := by omega
                    have h2 : ((number.natAbs : Nat) : Int) < ((2 ^ b : Nat) : Int) := by rw [this]; simpa using hb
                    exact_mod_cast h2) (by decide) (by omega)]
  walk_at "ev"
  rw [fdivI (by decide) (by decide +kernel)]
  walk_at "ev"
  simp only [addI, Res.bind_ok]
  rw [modI (by decide)]
  walk_at "ev"
  simp only [addI, Res.bind_ok]
  have hm3 : 0 ≤ (t / 1021 + t) % 999983 ∧ (t / 1021 + t) % 999983 < 999983 := ⟨Int.emod_nonneg _ (by decide), Int.emod_lt_of_pos _ (by decide)⟩
  generalize (t / 1021 + t) % 999983 = u at hm3 ⊢
  walk_at "ev"
  refine ⟨_, _, _, ?_, ?_, hm, rfl⟩
  · omega
  · have : (2 : Int) ^ (b + 20) = 2 ^ b * 1048576 := by rw [Int.pow_add]; rfl
    omega
theorem deal_loop (c m : Int) : ∀ (ks : List Int) (number one : Int) (x4 x5 : Option Slot) (b : Nat), 0 ≤ number → number < 2 ^ b → (0 ≤ one ∧ one < 2147483647) → b + 20 * ks.length < 999990 →
    ∃ number' one' : Int, ∃ x4' x5' : Option Slot, 0 ≤ number' ∧ number' < 2 ^ (b + 20 * ks.length) ∧
      forS (gN 4) dealB (ks.map .int) [some (.sh (.int c)), some (.sh (.int m)), some (.sh (.int number)), some (.sh (.int one)), x4, x5]
      = .ok .nx [some (.sh (.int c)), some (.sh (.int m)), some (.sh (.int number')), some (.sh (.int one')), x4', x5']
  | [], number, one, x4, x5, b, h0, hb, ho, hl => ⟨number, one, x4, x5, h0, hb, rfl⟩
  | k :: ks, number, one, x4, x5, b, h0, hb, ho, hl => by
    rw [List.length_cons] at hl
    obtain ⟨n1, o1, y5, g0, gb, go, e⟩ := deal_turn c m k number one x4 x5 b h0 hb ho (by omega)
    obtain ⟨n2, o2, z4, z5, k0, kb, f⟩ := deal_loop c m ks n1 o1 (some (.sh (.int k))) y5 (b + 20) g0 gb go (by omega)
    refine ⟨n2, o2, z4, z5, k0, ?_, ?_⟩
    · rw [List.length_cons]
      have : b + 20 * (ks.length + 1) = b + 20 + 20 * ks.length := by omega
      rw [this]; exact kb
    · rw [List.map_cons]
      unfold forS
      show (match dealB [some (.sh (.int c)), some (.sh (.int m)), some (.sh (.int number)), some (.sh (.int one)), some (.sh (.int k)), x5] with
        | .ok .nx σ2 => forS (gN 4) dealB (ks.map .int) σ2
        | .ok .ct σ2 => forS (gN 4) dealB (ks.map .int) σ2
        | .ok .bk σ2 => .ok .nx σ2
        | .ok (.rt v) σ2 => .ok (.rt v) σ2
        | .exc x σ2 => .exc x σ2
        | .stuck => .stuck) = _
      rw [e]
      exact f
theorem rangeD_map (n : Int) : rangeD 0 n = ((List.range n.toNat).map fun (i : Nat) => (i : Int)).map .int := by
  unfold rangeD
  rw [List.map_map]
  simp only [Int.sub_zero]
  apply List.map_congr_left
  intro i _
  simp
theorem deal_ok (c m : Int) (hm : 0 ≤ m) (hm2 : m < 49000) : ∃ n : Int, 0 ≤ n ∧ lawDeal [.int c, .int m] = .ok (.int n) := by
  unfold lawDeal
  walk_at "ev"
  have p : powD (.int 10) (.int 18) = .ok (.int (10 ^ 18)) := powI (by decide +kernel)
  simp only [p, Res.bind_ok, geI, subI, thenR_ok]
  by_cases h : (10 : Int) ^ 18 ≤ c
  · simp only [decide_eq_true h]
    walk_at "ev"
    exact ⟨_, by omega, rfl⟩
  · simp only [decide_eq_false h]
    walk_at "ev"
    rw [modI (by decide)]
    simp only [addI, Res.bind_ok]
    have hq : 0 ≤ c % 2147483647 ∧ c % 2147483647 < 2147483647 := ⟨Int.emod_nonneg _ (by decide), Int.emod_lt_of_pos _ (by decide)⟩
    generalize c % 2147483647 = q at hq ⊢
    rw [mulI 33 20 (by omega) (by decide) (by decide)]
    walk_at "ev"
    rw [modI (by decide)]
    walk_at "ev"
    have hr : rng1 [.int m] = .ok (rangeD 0 m) := by
      show (if _ then _ else _) = _
      rw [if_pos ⟨by omega, by omega⟩]
    simp only [hr, Res.bind_ok, thenR_ok, rangeD_map]
    have ho : 0 ≤ (q + 977) * 69621 % 2147483647 ∧ (q + 977) * 69621 % 2147483647 < 2147483647 := ⟨Int.emod_nonneg _ (by decide), Int.emod_lt_of_pos _ (by decide)⟩
    obtain ⟨n2, o2, z4, z5, k0, kb, f⟩ := deal_loop c m ((List.range m.toNat).map fun (i : Nat) => (i : Int)) 0 _ none none 1 (by decide) (by decide) ho (by rw [List.length_map, List.length_range]; omega)
    rw [f]
    exact ⟨n2, k0, rfl⟩
end E3
namespace E3
open PySem PySem.Spec PyProof.Rows L2
local macro_rules | `(tactic| walk_at "ev") => `(tactic| simp only [fnD, startF, endF, sSeq, sAsg, sSet, sSetV, sAsgV, sIf, sRet, sNew, sMut, sMutV, sFor, sForR, sFreeze, sNil, optK, thenR_ok, thenR_exc, thenR_stuck,
  view, mask, eVar, eC, e1, e2, eCall, eTup, eLst, eSl, oNone, oSome, eAnd, eOr, eIf, E3.tAnd, E3.tOr, E3.tNot, E3.tB, asB, notD, aNil, aCons, Res.bind_ok, Res.bind_exc, Res.bind_stuck,
  gT, gsCons, gsNil, gN, tupD, lstD, Slot.dat, Slot.shd, List.length_cons, List.length_nil, List.map_cons, List.map_nil, List.replicate, List.append_nil, List.cons_append, List.nil_append, Option.map_some, Option.map_none, Option.bind_some, Option.bind_none,
  List.getElem?_cons_zero, List.getElem?_cons_succ, List.set_cons_zero, List.set_cons_succ, Nat.reduceAdd, Nat.reduceSub, Nat.reduceEqDiff, if_true, if_false, ite_true, ite_false, reduceIte, decide_true, decide_false, reduceCtorEq])
theorem eqI (i j : Int) : eqD (.int i) (.int j) = .ok (.bool (i == j)) := rfl
theorem neI (i j : Int) : neD (.int i) (.int j) = .ok (.bool (!(i == j))) := rfl
end E3
namespace E3
open PySem PySem.Spec PyProof.Rows L2
local macro_rules | `(tactic| walk_at "ev") => `(tactic| simp only [fnD, startF, endF, sSeq, sAsg, sSet, sSetV, sAsgV, sIf, sRet, sNew, sMut, sMutV, sFor, sForR, sFreeze, sNil, optK, thenR_ok, thenR_exc, thenR_stuck,
  view, mask, eVar, eC, e1, e2, eCall, eTup, eLst, eSl, oNone, oSome, eAnd, eOr, eIf, E3.tAnd, E3.tOr, E3.tNot, E3.tB, asB, notD, aNil, aCons, Res.bind_ok, Res.bind_exc, Res.bind_stuck,
  gT, gsCons, gsNil, gN, tupD, lstD, Slot.dat, Slot.shd, List.length_cons, List.length_nil, List.map_cons, List.map_nil, List.replicate, List.append_nil, List.cons_append, List.nil_append, Option.map_some, Option.map_none, Option.bind_some, Option.bind_none,
  List.getElem?_cons_zero, List.getElem?_cons_succ, List.set_cons_zero, List.set_cons_succ, Nat.reduceAdd, Nat.reduceSub, Nat.reduceEqDiff, if_true, if_false, ite_true, ite_false, reduceIte, decide_true, decide_false, reduceCtorEq])
theorem le0 : (0 : Nat) ≤ sizeLine := by decide
theorem le1 : (1 : Nat) ≤ sizeLine := by decide
theorem le2 : (2 : Nat) ≤ sizeLine := by decide
theorem le3 : (3 : Nat) ≤ sizeLine := by decide
theorem le4 : (4 : Nat) ≤ sizeLine := by decide
theorem le5 : (5 : Nat) ≤ sizeLine := by decide
theorem le6 : (6 : Nat) ≤ sizeLine := by decide
theorem eVar_zero {d : D} {σ : DS} : eVar 0 (some d :: σ) = .ok d := rfl
theorem eVar_succ {o : Option D} {σ : DS} {i : Nat} : eVar (i + 1) (o :: σ) = eVar i σ := rfl
abbrev cellD (p : Int × Int) : D := cell p.1 p.2
theorem keysOf_enc : ∀ ks : List (List Int), keysOf (ks.map encK) = some ks
  | [] => rfl
  | k :: ks => by
    have h : keyOf (encK k) = some k := intsOf_map k
    show (match keyOf (encK k), keysOf (ks.map encK) with
      | some k, some ks => some (k :: ks)
      | _, _ => none) = _
    rw [h, keysOf_enc ks]
abbrev ltP (a b : Int × Int) : Prop := a.1 < b.1 ∨ a.1 = b.1 ∧ a.2 < b.2
theorem lt_pair {a b c d : Int} (h : [a, b] ≤ [c, d]) (n : [a, b] ≠ [c, d]) : a < c ∨ a = c ∧ b < d := by
  rcases Int.lt_trichotomy a c with z | z | z
  · exact .inl z
  · subst z
    refine .inr ⟨rfl, ?_⟩
    rcases Int.lt_trichotomy b d with y | y | y
    · exact y
    · subst y; exact absurd rfl n
    · exact absurd (List.cons_lt_cons_iff.mpr (.inr ⟨rfl, List.cons_lt_cons_iff.mpr (.inl y)⟩)) h
  · exact absurd (List.cons_lt_cons_iff.mpr (.inl z)) h
theorem lay_cells : ∀ ps : List (Int × Int), PyData.canLayAll0 (ps.map cellD) = true
  | [] => rfl
  | p :: ps => by
    show (PyData.canLay0 (cellD p) && PyData.canLayAll0 (ps.map cellD)) = true
    rw [lay_cells ps]; rfl
theorem deep_cells : ∀ ps : List (Int × Int), PyData.depthAll (ps.map cellD) ≤ 1
  | [] => by decide
  | p :: ps => by
    show max (PyData.depth (cellD p)) (PyData.depthAll (ps.map cellD)) ≤ 1
    have := deep_cells ps
    have h : PyData.depth (cellD p) = 1 := rfl
    omega
theorem shaped_cells (ps : List (Int × Int)) : SeqAt.shaped (.tuple (ps.map cellD)) = true := by
  refine Bool.and_eq_true_iff.mpr ⟨lay_cells ps, decide_eq_true ?_⟩
  show PyData.depthAll (ps.map cellD) + 1 ≤ 64
  have := deep_cells ps
  omega
theorem cut_ints (ns : List Int) (lo hi : Option Int) : ∃ ms : List Int, cutD (ns.map PyData.int) lo hi = ms.map PyData.int ∧ ms.length ≤ ns.length :=
  ⟨(ns.drop (HT.sIx (ns.map PyData.int).length 0 lo)).take (HT.sIx (ns.map PyData.int).length (ns.map PyData.int).length hi - HT.sIx (ns.map PyData.int).length 0 lo), by
    unfold cutD
    rw [List.map_take, List.map_drop], by
    rw [List.length_take, List.length_drop]; omega⟩
theorem cut_cat (ns ks : List Int) (lo hi : Option Int) (h : ns.length + ks.length ≤ sizeLine) : ∃ ms : List Int, addD (.list (cutD (ns.map PyData.int) lo hi)) (.list (ks.map PyData.int)) = .ok (.list (ms.map PyData.int)) ∧ ms.length ≤ ns.length + ks.length := by
  obtain ⟨ms, e, hl⟩ := cut_ints ns lo hi
  refine ⟨ms ++ ks, ?_, by rw [List.length_append]; omega⟩
  rw [e]
  show (if _ then _ else _) = _
  rw [if_pos (by rw [List.length_map, List.length_map]; omega), List.map_append]
end E3
namespace E3
open PySem PySem.Spec PyProof.Rows L2
theorem ltP_irr (a : Int × Int) : ¬ ltP a a := by
  rintro (h | ⟨_, h⟩) <;> omega
theorem ltP_asym {a b : Int × Int} (h : ltP a b) : ¬ ltP b a := by
  rcases h with h | ⟨h1, h2⟩ <;> rintro (k | ⟨k1, k2⟩) <;> omega
theorem pw_nodup {xs : List (Int × Int)} (h : xs.Pairwise ltP) : xs.Nodup := h.imp fun {a b} z e => by
  subst e; exact ltP_irr _ z
theorem rise_uniq {xs ys : List (Int × Int)} (hx : xs.Pairwise ltP) (hy : ys.Pairwise ltP) (h : ∀ p, p ∈ xs ↔ p ∈ ys) : xs = ys := by
  have pm : xs.Perm ys := (List.perm_ext_iff_of_nodup (pw_nodup hx) (pw_nodup hy)).mpr h
  exact List.Perm.eq_of_pairwise (le := ltP) (fun a b _ _ h1 h2 => absurd h2 (ltP_asym h1)) hx hy pm
abbrev kOf (p : Int × Int) : List Int := [p.1, p.2]
abbrev pOf (k : List Int) : Int × Int := (k.getD 0 0, k.getD 1 0)
def srt (ps : List (Int × Int)) : List (Int × Int) := (riseK (dd (ps.map kOf))).map pOf
theorem srt_from {ps : List (Int × Int)} : ∀ k ∈ riseK (dd (ps.map kOf)), ∃ p ∈ ps, k = kOf p := fun k hk => by
  obtain ⟨p, hp, rfl⟩ := List.mem_map.mp (mem_dd.mp ((riseK_perm _).mem_iff.mp hk))
  exact ⟨p, hp, rfl⟩
theorem mem_srt {ps : List (Int × Int)} {q : Int × Int} : q ∈ srt ps ↔ q ∈ ps := by
  constructor
  · intro hq
    obtain ⟨k, hk, rfl⟩ := List.mem_map.mp hq
    obtain ⟨p, hp, rfl⟩ := srt_from k hk
    exact hp
  · exact fun hq => List.mem_map.mpr ⟨kOf q, (riseK_perm _).mem_iff.mpr (mem_dd.mpr (List.mem_map.mpr ⟨q, hq, rfl⟩)), rfl⟩
theorem pw_srt (ps : List (Int × Int)) : (srt ps).Pairwise ltP := by
  refine List.pairwise_map.mpr ?_
  have nd : (riseK (dd (ps.map kOf))).Nodup := (riseK_perm _).nodup_iff.mpr (nodup_dd _)
  refine ((riseK_pair _).and nd).imp_of_mem fun {a b} ha hb h => ?_
  obtain ⟨p, hp, rfl⟩ := srt_from a ha
  obtain ⟨q, hq, rfl⟩ := srt_from b hb
  exact lt_pair h.1 h.2
theorem dd_len : ∀ l : List (List Int), (dd l).length ≤ l.length
  | [] => Nat.le_refl _
  | a :: l => by
    have := dd_len l
    unfold dd
    split
    · rw [List.length_cons]; omega
    · rw [List.length_cons, List.length_cons]; omega
theorem srt_len (ps : List (Int × Int)) : (srt ps).length ≤ ps.length := by
  unfold srt
  rw [List.length_map, (riseK_perm _).length_eq]
  exact Nat.le_trans (dd_len _) (by rw [List.length_map]; exact Nat.le_refl _)
theorem srt_cells (ps : List (Int × Int)) : (riseK (dd (ps.map kOf))).map encK = (srt ps).map cellD := by
  unfold srt
  rw [List.map_map]
  refine List.map_congr_left fun k hk => ?_
  obtain ⟨p, hp, rfl⟩ := srt_from k hk
  rfl
theorem cells_enc (ps : List (Int × Int)) : ps.map cellD = (ps.map kOf).map encK := by rw [List.map_map]; rfl
theorem dd_nodup : ∀ {l : List (List Int)}, l.Nodup → dd l = l
  | [], _ => rfl
  | a :: l, h => by
    obtain ⟨h1, h2⟩ := List.nodup_cons.mp h
    unfold dd
    rw [dd_nodup h2, if_neg h1]
theorem kOf_nodup {ps : List (Int × Int)} (h : ps.Nodup) : (ps.map kOf).Nodup := List.pairwise_map.mpr (h.imp fun {a b} ne e => ne (by
  have e1 : a.1 = b.1 := (List.cons.inj e).1
  have e2 : a.2 = b.2 := (List.cons.inj (List.cons.inj e).2).1
  exact Prod.ext e1 e2))
theorem forS_go {α : Type} {p : GF} {body : SF} {g : α → D} {Inv : List α → SS → Prop} (all : List α) : ∀ (xs done : List α) (σ : SS), all = done ++ xs → Inv done σ →
    (∀ pre x post σ, all = pre ++ x :: post → Inv pre σ → ∃ σ1 σ2, p (g x) σ = some σ1 ∧ (body σ1 = .ok .nx σ2 ∨ body σ1 = .ok .ct σ2) ∧ Inv (pre ++ [x]) σ2) → ∃ σ', forS p body (xs.map g) σ = .ok .nx σ' ∧ Inv all σ'
  | [], done, σ, e, h, _ => ⟨σ, rfl, by rw [e, List.append_nil]; exact h⟩
  | x :: xs, done, σ, e, h, k => by
    obtain ⟨σ1, σ2, e1, e2, h2⟩ := k done x xs σ e h
    obtain ⟨σ3, e3, h3⟩ := forS_go all xs (done ++ [x]) σ2 (by rw [e, List.append_assoc]; rfl) h2 k
    refine ⟨σ3, ?_, h3⟩
    rw [List.map_cons]
    unfold forS
    rw [e1]
    rcases e2 with e2 | e2
    · simp only [e2]; exact e3
    · simp only [e2]; exact e3
theorem forS_pre {α : Type} {p : GF} {body : SF} {g : α → D} {Inv : List α → SS → Prop} (xs : List α) (σ : SS) (h : Inv [] σ)
    (k : ∀ pre x post σ, xs = pre ++ x :: post → Inv pre σ → ∃ σ1 σ2, p (g x) σ = some σ1 ∧ (body σ1 = .ok .nx σ2 ∨ body σ1 = .ok .ct σ2) ∧ Inv (pre ++ [x]) σ2) : ∃ σ', forS p body (xs.map g) σ = .ok .nx σ' ∧ Inv xs σ' :=
  forS_go xs xs [] σ rfl h k
theorem lc_of {α : Type} {p : GF} {c : DS → Res Bool} {f : DS → Res D} {σ : DS} {g : α → D} {q : α → D} : ∀ (xs : List α), (∀ x ∈ xs, ∃ σ2, patD p (g x) σ = some σ2 ∧ c σ2 = .ok true ∧ f σ2 = .ok (q x)) → lcD p c f σ (xs.map g) = .ok (xs.map q)
  | [], _ => rfl
  | x :: xs, h => by
    obtain ⟨σ2, a, b, e⟩ := h x List.mem_cons_self
    rw [List.map_cons]
    unfold lcD
    rw [a]
    simp only [b, e, Res.ne, Res.bind_ok, if_true, lc_of xs fun d' hd => h d' (List.mem_cons_of_mem _ hd)]
    rfl
theorem lc_if {α : Type} {p : GF} {c : DS → Res Bool} {f : DS → Res D} {σ : DS} {g : α → D} {q : α → D} {t : α → Bool} : ∀ (xs : List α), (∀ x ∈ xs, ∃ σ2, patD p (g x) σ = some σ2 ∧ c σ2 = .ok (t x) ∧ (t x = true → f σ2 = .ok (q x))) → lcD p c f σ (xs.map g) = .ok ((xs.filter t).map q)
  | [], _ => rfl
  | x :: xs, h => by
    obtain ⟨σ2, a, b, e⟩ := h x List.mem_cons_self
    have ih := lc_if (q := q) (t := t) xs fun d' hd => h d' (List.mem_cons_of_mem _ hd)
    rw [List.map_cons]
    unfold lcD
    rw [a]
    cases ht : t x with
    | true =>
      rw [ht] at b
      simp only [b, e ht, Res.ne, Res.bind_ok, if_true, ih, List.filter_cons, ht, List.map_cons]
    | false =>
      rw [ht] at b
      simp only [b, Res.ne, Res.bind_ok, if_false, ih, List.filter_cons, ht, Bool.false_eq_true]
end E3
namespace E3
open PySem PySem.Spec PyProof.Rows L2
local macro_rules | `(tactic| walk_at "ev") => `(tactic| simp only [fnD, startF, endF, sSeq, sAsg, sSet, sSetV, sAsgV, sIf, sRet, sNew, sMut, sMutV, sFor, sForR, sFreeze, sNil, sExpr, optK, thenR_ok, thenR_exc, thenR_stuck,
  view, mask, E3.eVar_zero, E3.eVar_succ, eC, e1, e2, eCall, eTup, eLst, eSl, oNone, oSome, eAnd, eOr, eIf, E3.tAnd, E3.tOr, E3.tNot, E3.tB, asB, notD, aNil, aCons, Res.bind_ok, Res.bind_exc, Res.bind_stuck,
  gT, gsCons, gsNil, gN, tupD, lstD, Slot.dat, Slot.shd, List.length_cons, List.length_nil, List.map_cons, List.map_nil, List.replicate, List.append_nil, List.cons_append, List.nil_append, Option.map_some, Option.map_none, Option.bind_some, Option.bind_none,
  List.getElem?_cons_zero, List.getElem?_cons_succ, List.set_cons_zero, List.set_cons_succ, Nat.reduceAdd, Nat.reduceSub, Nat.reduceEqDiff, if_true, if_false, ite_true, ite_false, reduceIte, decide_true, decide_false, reduceCtorEq, Bool.not_true, Bool.not_false, Bool.false_eq_true, Bool.true_eq_false, Bool.or_true, Bool.true_or, Bool.false_or, Bool.or_false, addI, subI, ltI, leI, gtI, geI, eqI, neI, ix_cell0, ix_cell1, E3.le1, E3.le2, E3.le3, E3.le4, E3.le5, E3.le6, beq_self_eq_true])
abbrev mv (a b : Int) (p : Int × Int) : Int × Int := (p.1 + a, p.2 + b)
def lawWhole : List D → Res D := fnD 1 1 (sRet (eAnd (e1 (isiD "int") (eVar 0)) (e1 notD (e1 (isiD "bool") (eVar 0)))))
theorem whole_ok (i : Int) : lawWhole [.int i] = .ok (.bool true) := rfl
end E3
namespace E3
open PySem PySem.Spec PyProof.Rows L2
local macro_rules | `(tactic| walk_at "ev") => `(tactic| try simp only [fnD, startF, endF, sSeq, sAsg, sSet, sSetV, sAsgV, sIf, sRet, sNew, sMut, sMutV, sFor, sForR, sFreeze, sNil, sExpr, optK, thenR_ok, thenR_exc, thenR_stuck,
  view, mask, E3.eVar_zero, E3.eVar_succ, eC, e1, e2, eCall, eTup, eLst, eSl, oNone, oSome, eAnd, eOr, eIf, E3.tAnd, E3.tOr, E3.tNot, E3.tB, asB, notD, aNil, aCons, Res.bind_ok, Res.bind_exc, Res.bind_stuck,
  gT, gsCons, gsNil, gN, tupD, lstD, Slot.dat, Slot.shd, List.length_cons, List.length_nil, List.map_cons, List.map_nil, List.replicate, List.append_nil, List.cons_append, List.nil_append, Option.map_some, Option.map_none, Option.bind_some, Option.bind_none,
  List.getElem?_cons_zero, List.getElem?_cons_succ, List.set_cons_zero, List.set_cons_succ, Nat.reduceAdd, Nat.reduceSub, Nat.reduceEqDiff, if_true, if_false, ite_true, ite_false, reduceIte, decide_true, decide_false, reduceCtorEq, Bool.not_true, Bool.not_false, Bool.false_eq_true, Bool.true_eq_false, Bool.or_true, Bool.true_or, Bool.false_or, Bool.or_false, addI, subI, ltI, leI, gtI, geI, eqI, neI, ix_cell0, ix_cell1, E3.le1, E3.le2, E3.le3, E3.le4, E3.le5, E3.le6, beq_self_eq_true])
theorem eqv_cell (p q : Int × Int) : PyData.eqv (cellD p) (cellD q) = decide (p = q) := by
  have h : PyData.eqv (cellD p) (cellD q) = (p.1 == q.1 && (p.2 == q.2 && true)) := by simp [PyData.eqv, PyData.eqvAll]
  rw [h]
  by_cases e : p = q
  · subst e; simp
  · rw [decide_eq_false e]
    by_cases e1 : p.1 = q.1
    · have e2 : p.2 ≠ q.2 := fun z => e (Prod.ext e1 z)
      simp [e1, e2]
    · simp [e1]
theorem mem_cells (p : Int × Int) (ps : List (Int × Int)) : memD (cellD p) (ps.map cellD) = decide (p ∈ ps) := by
  unfold memD
  induction ps with
  | nil => simp
  | cons q ps ih =>
    rw [List.map_cons, List.any_cons, ih, eqv_cell]
    by_cases e : q = p
    · subst e; simp
    · have e' : p ≠ q := fun z => e z.symm
      simp [e, e']
theorem shaped_cell (p : Int × Int) : SeqAt.shaped (cellD p) = true := by
  refine Bool.and_eq_true_iff.mpr ⟨rfl, decide_eq_true ?_⟩
  show PyData.depth (cellD p) ≤ 64
  have h : PyData.depth (cellD p) = 1 := rfl
  omega
theorem in_cells (p : Int × Int) (ps : List (Int × Int)) : inG (cellD p) (.tuple (ps.map cellD)) = .ok (.bool (decide (p ∈ ps))) := by
  show (if SeqAt.shaped (cellD p) && SeqAt.shaped (.tuple (ps.map cellD)) then Res.ok (PyData.bool (memD (cellD p) (ps.map cellD))) else .stuck) = _
  rw [shaped_cell, shaped_cells, mem_cells]; rfl
def hasK (kvs : List (D × D)) (k : List Int) : Bool := kvs.any fun p => decide (keyOf p.1 = some k)
theorem val_has (kvs : List (D × D)) (k : List Int) : (valK kvs k).isSome = hasK kvs k := by
  unfold valK hasK
  rw [Option.isSome_map]
  induction kvs with
  | nil => rfl
  | cons a l ih =>
    rw [List.find?_cons, List.any_cons]
    cases h : decide (keyOf a.1 = some k)
    · simp only [Bool.false_or]; exact ih
    · rfl
theorem has_put (kvs : List (D × D)) (k : List Int) (v : D) (j : List Int) : hasK (putKD kvs k v) j = (decide (k = j) || hasK kvs j) := by
  unfold putKD
  by_cases h : (kvs.any fun p => decide (keyOf p.1 = some k)) = true
  · rw [if_pos h]
    have e : hasK (kvs.map fun p => if keyOf p.1 = some k then (p.1, v) else p) j = hasK kvs j := by
      unfold hasK
      rw [List.any_map]
      congr 1
      funext p
      show decide (keyOf (if keyOf p.1 = some k then (p.1, v) else p).1 = some j) = _
      by_cases z : keyOf p.1 = some k
      · rw [if_pos z]
      · rw [if_neg z]
    rw [e]
    by_cases z : k = j
    · subst z
      have : hasK kvs k = true := h
      rw [this]; simp
    · rw [decide_eq_false z]; rfl
  · rw [if_neg h]
    unfold hasK
    rw [List.any_append, List.any_cons, List.any_nil, Bool.or_false]
    have : keyOf (.tuple (k.map .int)) = some k := intsOf_map k
    rw [this, Bool.or_comm]
    congr 1
    by_cases z : k = j
    · subst z; simp
    · rw [decide_eq_false z, decide_eq_false (fun y => z (Option.some.inj y))]
theorem len_put (kvs : List (D × D)) (k : List Int) (v : D) : (putKD kvs k v).length ≤ kvs.length + 1 := by
  unfold putKD
  split
  · rw [List.length_map]; omega
  · rw [List.length_append]; simp
theorem kOf_eq {p q : Int × Int} : (kOf p = kOf q) ↔ p = q := ⟨fun e => Prod.ext (List.cons.inj e).1 (List.cons.inj (List.cons.inj e).2).1, fun e => by rw [e]⟩
theorem eqv_cells : ∀ ps qs : List (Int × Int), PyData.eqvAll (ps.map cellD) (qs.map cellD) = decide (ps = qs)
  | [], [] => rfl
  | [], _ :: _ => rfl
  | _ :: _, [] => rfl
  | p :: ps, q :: qs => by
    show (PyData.eqv (cellD p) (cellD q) && PyData.eqvAll (ps.map cellD) (qs.map cellD)) = _
    rw [eqv_cell, eqv_cells ps qs]
    by_cases h1 : p = q <;> by_cases h2 : ps = qs <;> simp [h1, h2]
end E3
namespace E3
open PySem PySem.Spec PyProof.Rows L2
local macro_rules | `(tactic| walk_at "ev") => `(tactic| try simp only [fnD, startF, endF, sSeq, sAsg, sSet, sSetV, sAsgV, sIf, sRet, sNew, sMut, sMutV, sFor, sForR, sFreeze, sNil, sExpr, optK, thenR_ok, thenR_exc, thenR_stuck,
  view, mask, E3.eVar_zero, E3.eVar_succ, eC, e1, e2, eCall, eTup, eLst, eSl, oNone, oSome, eAnd, eOr, eIf, E3.tAnd, E3.tOr, E3.tNot, E3.tB, asB, notD, aNil, aCons, Res.bind_ok, Res.bind_exc, Res.bind_stuck,
  gT, gsCons, gsNil, gN, tupD, lstD, Slot.dat, Slot.shd, List.length_cons, List.length_nil, List.map_cons, List.map_nil, List.replicate, List.append_nil, List.cons_append, List.nil_append, Option.map_some, Option.map_none, Option.bind_some, Option.bind_none,
  List.getElem?_cons_zero, List.getElem?_cons_succ, List.set_cons_zero, List.set_cons_succ, Nat.reduceAdd, Nat.reduceSub, Nat.reduceEqDiff, if_true, if_false, ite_true, ite_false, reduceIte, decide_true, decide_false, reduceCtorEq, Bool.not_true, Bool.not_false, Bool.false_eq_true, Bool.true_eq_false, Bool.or_true, Bool.true_or, Bool.false_or, Bool.or_false, addI, subI, ltI, leI, gtI, geI, eqI, neI, ix_cell0, ix_cell1, E3.le1, E3.le2, E3.le3, E3.le4, E3.le5, E3.le6, beq_self_eq_true])
theorem dd_srt (ps : List (Int × Int)) : (dd (ps.map kOf)).length = (srt ps).length := by
  unfold srt
  rw [List.length_map, (riseK_perm _).length_eq]
theorem sortSetB_big (ps : List (Int × Int)) (hl : (srt ps).length ≤ 4094) : BS.setOfB (ps.map cellD) = .ok (.list ((srt ps).map cellD)) := by
  rw [← srt_cells, cells_enc]
  show (match keysOf ((ps.map kOf).map encK) with
    | some ks => if (dd ks).length ≤ 4094 ∧ (ks.all fun k => !k.isEmpty) = true then Res.ok (PyData.list ((riseK (dd ks)).map encK)) else .stuck
    | none => .stuck) = _
  rw [keysOf_enc]
  have c2 : ((ps.map kOf).all fun k => !k.isEmpty) = true := List.all_eq_true.mpr fun k hk => by
    obtain ⟨p, hp, rfl⟩ := List.mem_map.mp hk; rfl
  simp only []
  rw [if_pos ⟨by rw [dd_srt]; exact hl, c2⟩]
theorem sortSetB_srt (ps : List (Int × Int)) (hl : ps.length ≤ 3999) : BS.setOfB (ps.map cellD) = .ok (.list ((srt ps).map cellD)) := sortSetB_big ps (Nat.le_trans (srt_len ps) (by omega))
abbrev hasB (ps : List (Int × Int)) (b : Bool) (p : Int × Int) : Bool := decide (p ∈ ps) != b
end E3
namespace E3
open PySem PySem.Spec PyProof.Rows L2
def Sub (ps : List (Int × Int)) (b : Bool) (qs : List (Int × Int)) (c : Bool) : Prop := ∀ p, hasB ps b p = true → hasB qs c p = true
section
variable {ps qs rs : List (Int × Int)} {b c d : Bool} (hp : ps.Pairwise ltP) (hq : qs.Pairwise ltP) (hr : rs.Pairwise ltP)
end
end E3
namespace E3
open PySem PySem.Spec PyProof.Rows L2
theorem negI (i : Int) : negD (.int i) = .ok (.int (-i)) := rfl
theorem powL {i j : Int} (h : decide (0 ≤ j ∧ j ≤ 1000000 ∧ i.natAbs < 2 ^ 64) = true) : powD (.int i) (.int j) = .ok (.int (i ^ j.toNat)) := powI h
theorem mulLL {i j : Int} (h : decide (i.natAbs < 2 ^ 200 ∧ j.natAbs < 2 ^ 200) = true) : mulD (.int i) (.int j) = .ok (.int (i * j)) := by
  have := of_decide_eq_true h
  exact mulI 200 200 this.1 this.2 (by decide)
theorem mulB {i j : Int} (a b : Nat) (hi : -(2 ^ a) < i ∧ i < 2 ^ a) (hj : -(2 ^ b) < j ∧ j < 2 ^ b) (h : a + b < 1000000) : mulD (.int i) (.int j) = .ok (.int (i * j)) := by
  refine mulI a b ?_ ?_ h
  · have h1 : ((i.natAbs : Nat) : Int) < ((2 ^ a : Nat) : Int) := by push_cast; omega
    exact_mod_cast h1
  · have h1 : ((j.natAbs : Nat) : Int) < ((2 ^ b : Nat) : Int) := by push_cast; omega
    exact_mod_cast h1
local macro_rules | `(tactic| walk_at "ev") => `(tactic| try simp (disch := first | decide | decide +kernel | omega) only [fnD, startF, endF, sSeq, sAsg, sSet, sSetV, sAsgV, sIf, sRet, sNew, sNewV, sMut, sMutV, sFor, sForR, sFreeze, sNil, sExpr, optK, thenR_ok, thenR_exc, thenR_stuck,
  view, mask, E3.eVar_zero, E3.eVar_succ, eC, e1, e2, eCall, eTup, eLst, eSl, oNone, oSome, eAnd, eOr, eIf, E3.tAnd, E3.tOr, E3.tNot, E3.tB, asB, notD, aNil, aCons, Res.bind_ok, Res.bind_exc, Res.bind_stuck,
  gT, gsCons, gsNil, gN, tupD, lstD, Slot.dat, Slot.shd, List.length_cons, List.length_nil, List.map_cons, List.map_nil, List.replicate, List.append_nil, List.cons_append, List.nil_append, Option.map_some, Option.map_none, Option.bind_some, Option.bind_none,
  List.getElem?_cons_zero, List.getElem?_cons_succ, List.set_cons_zero, List.set_cons_succ, Nat.reduceAdd, Nat.reduceSub, Nat.reduceEqDiff, if_true, if_false, ite_true, ite_false, reduceIte, decide_true, decide_false, reduceCtorEq, Bool.not_true, Bool.not_false, Bool.false_eq_true, Bool.true_eq_false, Bool.or_true, Bool.true_or, Bool.false_or, Bool.or_false, Bool.and_true, Bool.and_false, Bool.true_and, Bool.false_and, addI, subI, ltI, leI, gtI, geI, eqI, neI, negI, ix_cell0, ix_cell1, E3.le0, E3.le1, E3.le2, E3.le3, E3.le4, E3.le5, E3.le6, beq_self_eq_true, divmodI, modI, fdivI, powL, mulLL])
theorem rng1_nat {m : Int} (h : 0 ≤ m) (k : m ≤ 100000) : rng1 [.int m] = .ok ((List.range m.toNat).map fun k : Nat => PyData.int (k : Nat)) := by
  have e : rng1 [.int m] = .ok (rangeD 0 m) := by
    show (if _ then _ else _) = _
    rw [if_pos ⟨by omega, by omega⟩]
  rw [e]
  unfold rangeD
  simp
end E3
namespace E3
open PySem PySem.Spec PyProof.Rows L2
local macro_rules | `(tactic| walk_at "ev") => `(tactic| try simp (disch := first | decide | decide +kernel | omega) only [fnD, startF, endF, sSeq, sAsg, sSet, sSetV, sAsgV, sIf, sRet, sNew, sNewV, sMut, sMutV, sFor, sForR, sFreeze, sNil, sExpr, optK, thenR_ok, thenR_exc, thenR_stuck,
  view, mask, E3.eVar_zero, E3.eVar_succ, eC, e1, e2, eCall, eTup, eLst, eSl, oNone, oSome, eAnd, eOr, eIf, E3.tAnd, E3.tOr, E3.tNot, E3.tB, asB, notD, aNil, aCons, Res.bind_ok, Res.bind_exc, Res.bind_stuck,
  gT, gsCons, gsNil, gN, tupD, lstD, Slot.dat, Slot.shd, List.length_cons, List.length_nil, List.map_cons, List.map_nil, List.replicate, List.append_nil, List.cons_append, List.nil_append, Option.map_some, Option.map_none, Option.bind_some, Option.bind_none,
  List.getElem?_cons_zero, List.getElem?_cons_succ, List.set_cons_zero, List.set_cons_succ, Nat.reduceAdd, Nat.reduceSub, Nat.reduceEqDiff, if_true, if_false, ite_true, ite_false, reduceIte, decide_true, decide_false, reduceCtorEq, Bool.not_true, Bool.not_false, Bool.false_eq_true, Bool.true_eq_false, Bool.or_true, Bool.true_or, Bool.false_or, Bool.or_false, Bool.and_true, Bool.and_false, Bool.true_and, Bool.false_and, addI, subI, ltI, leI, gtI, geI, eqI, neI, negI, ix_cell0, ix_cell1, E3.le0, E3.le1, E3.le2, E3.le3, E3.le4, E3.le5, E3.le6, beq_self_eq_true, divmodI, modI, fdivI, powL, mulLL])
def SN (r : SR) (P : SS → Prop) : Prop := ∃ σ, r = .ok .nx σ ∧ P σ
theorem SN.ok {σ : SS} {P : SS → Prop} (h : P σ) : SN (.ok .nx σ) P := ⟨σ, rfl, h⟩
def ST (r : SR) (P : D → Prop) : Prop := ∃ d σ, r = .ok (.rt d) σ ∧ P d
theorem ST.ok {d : D} {σ : SS} {P : D → Prop} (h : P d) : ST (.ok (.rt d) σ) P := ⟨d, σ, rfl, h⟩
def RP (r : Res D) (P : D → Prop) : Prop := ∃ d, r = .ok d ∧ P d
theorem RP.ok {d : D} {P : D → Prop} (h : P d) : RP (.ok d) P := ⟨d, rfl, h⟩
def dctT (qs : List (Int × Int)) : List (D × D) := qs.map fun p => (cellD p, .bool true)
theorem key_cell (p : Int × Int) : keyOf (cellD p) = some (kOf p) := intsOf_map (kOf p)
theorem dct_any (qs : List (Int × Int)) (p : Int × Int) : ((dctT qs).any fun e => decide (keyOf e.1 = some (kOf p))) = decide (p ∈ qs) := by
  induction qs with
  | nil => rfl
  | cons q qs ih =>
    show (decide (keyOf (cellD q) = some (kOf p)) || (dctT qs).any _) = _
    rw [ih, key_cell]
    by_cases h : p = q
    · subst h; simp
    · have h2 : ¬ kOf q = kOf p := fun e => h (kOf_eq.mp e).symm
      simp [h, h2]
theorem put_dct (qs : List (Int × Int)) (p : Int × Int) : putKD (dctT qs) (kOf p) (.bool true) = dctT (if p ∈ qs then qs else qs ++ [p]) := by
  unfold putKD
  rw [dct_any]
  by_cases h : p ∈ qs
  · rw [if_pos (decide_eq_true h), if_pos h]
    unfold dctT
    rw [List.map_map]
    apply List.map_congr_left
    intro q _
    show (if keyOf (cellD q) = some (kOf p) then (cellD q, PyData.bool true) else (cellD q, PyData.bool true)) = _
    split <;> rfl
  · rw [if_neg (by simpa using h), if_neg h]
    unfold dctT
    rw [List.map_append]; rfl
theorem dct_len (qs : List (Int × Int)) : (dctT qs).length = qs.length := List.length_map ..
def addC (qs : List (Int × Int)) (p : Int × Int) : List (Int × Int) := if p ∈ qs then qs else qs ++ [p]
theorem mem_addC {qs : List (Int × Int)} {p q : Int × Int} : q ∈ addC qs p ↔ q ∈ qs ∨ q = p := by
  unfold addC
  split
  · rename_i h
    exact ⟨.inl, fun z => z.elim id fun e => e ▸ h⟩
  · simp
theorem nd_addC {qs : List (Int × Int)} {p : Int × Int} (h : qs.Nodup) : (addC qs p).Nodup := by
  unfold addC
  split
  · exact h
  · rename_i hp
    exact List.nodup_append.mpr ⟨h, by simp, fun a ha b hb e => hp (by rw [List.mem_singleton.mp hb] at e; rw [← e]; exact ha)⟩
theorem len_addC (qs : List (Int × Int)) (p : Int × Int) : (addC qs p).length ≤ qs.length + 1 := by
  unfold addC
  split
  · omega
  · rw [List.length_append, List.length_singleton]; omega
theorem putS_dct {j : Nat} {σ : SS} {qs : List (Int × Int)} {p : Int × Int} (h : qs.length < sizeLine) : putS j σ (dctT qs) (cellD p) (.bool true) = .ok .nx (σ.set j (some (.ow (.dict (dctT (addC qs p)))))) := by
  unfold putS
  simp only [key_cell]
  rw [if_pos (by rw [dct_len]; exact h), put_dct]
  rfl
theorem sortL_srt {qs : List (Int × Int)} (hn : qs.Nodup) : sortL (qs.map cellD) = (srt qs).map cellD := by
  rw [← srt_cells, dd_nodup (kOf_nodup hn), cells_enc, sortL_enc]
theorem sort_dct {qs : List (Int × Int)} (hn : qs.Nodup) : sortAnyD [.dict (dctT qs)] = .ok (.list ((srt qs).map cellD)) := by
  have h1 : (dctT qs).all keyNE = true := List.all_eq_true.mpr fun e he => by
    obtain ⟨p, _, rfl⟩ := List.mem_map.mp he; rfl
  have h2 : (dctT qs).map (·.1) = qs.map cellD := by unfold dctT; rw [List.map_map]; rfl
  show (if (dctT qs).all keyNE = true then Res.ok (PyData.list (sortL ((dctT qs).map (·.1)))) else .stuck) = _
  rw [if_pos h1, h2, sortL_srt hn]
def tupC (ps : List (Int × Int)) : D := .tuple (ps.map cellD)
end E3
namespace E3
open PySem PySem.Spec PyProof.Rows L2
theorem isi_bool_none  : isiD "bool" .none = .ok (.bool false) := rfl
theorem isi_bool_bool (b : Bool) : isiD "bool" (.bool b) = .ok (.bool true) := rfl
theorem isi_bool_int (i : Int) : isiD "bool" (.int i) = .ok (.bool false) := rfl
theorem isi_bool_str (x : Str) : isiD "bool" (.str x) = .ok (.bool false) := rfl
theorem isi_bool_list (xs : List D) : isiD "bool" (.list xs) = .ok (.bool false) := rfl
theorem isi_bool_tuple (xs : List D) : isiD "bool" (.tuple xs) = .ok (.bool false) := rfl
theorem isi_int_none  : isiD "int" .none = .ok (.bool false) := rfl
theorem isi_int_bool (b : Bool) : isiD "int" (.bool b) = .ok (.bool true) := rfl
theorem isi_int_int (i : Int) : isiD "int" (.int i) = .ok (.bool true) := rfl
theorem isi_int_str (x : Str) : isiD "int" (.str x) = .ok (.bool false) := rfl
theorem isi_int_list (xs : List D) : isiD "int" (.list xs) = .ok (.bool false) := rfl
theorem isi_int_tuple (xs : List D) : isiD "int" (.tuple xs) = .ok (.bool false) := rfl
theorem isi_str_none  : isiD "str" .none = .ok (.bool false) := rfl
theorem isi_str_bool (b : Bool) : isiD "str" (.bool b) = .ok (.bool false) := rfl
theorem isi_str_int (i : Int) : isiD "str" (.int i) = .ok (.bool false) := rfl
theorem isi_str_str (x : Str) : isiD "str" (.str x) = .ok (.bool true) := rfl
theorem isi_str_list (xs : List D) : isiD "str" (.list xs) = .ok (.bool false) := rfl
theorem isi_str_tuple (xs : List D) : isiD "str" (.tuple xs) = .ok (.bool false) := rfl
theorem isi_list_none  : isiD "list" .none = .ok (.bool false) := rfl
theorem isi_list_bool (b : Bool) : isiD "list" (.bool b) = .ok (.bool false) := rfl
theorem isi_list_int (i : Int) : isiD "list" (.int i) = .ok (.bool false) := rfl
theorem isi_list_str (x : Str) : isiD "list" (.str x) = .ok (.bool false) := rfl
theorem isi_list_list (xs : List D) : isiD "list" (.list xs) = .ok (.bool true) := rfl
theorem isi_list_tuple (xs : List D) : isiD "list" (.tuple xs) = .ok (.bool false) := rfl
theorem isi_tuple_none  : isiD "tuple" .none = .ok (.bool false) := rfl
theorem isi_tuple_bool (b : Bool) : isiD "tuple" (.bool b) = .ok (.bool false) := rfl
theorem isi_tuple_int (i : Int) : isiD "tuple" (.int i) = .ok (.bool false) := rfl
theorem isi_tuple_str (x : Str) : isiD "tuple" (.str x) = .ok (.bool false) := rfl
theorem isi_tuple_list (xs : List D) : isiD "tuple" (.list xs) = .ok (.bool false) := rfl
theorem isi_tuple_tuple (xs : List D) : isiD "tuple" (.tuple xs) = .ok (.bool true) := rfl
theorem isN_none  : isND .none .none = .ok (.bool true) := rfl
theorem ntN_none  : notND .none .none = .ok (.bool false) := rfl
theorem isN_bool (b : Bool) : isND (.bool b) .none = .ok (.bool false) := rfl
theorem ntN_bool (b : Bool) : notND (.bool b) .none = .ok (.bool true) := rfl
theorem isN_int (i : Int) : isND (.int i) .none = .ok (.bool false) := rfl
theorem ntN_int (i : Int) : notND (.int i) .none = .ok (.bool true) := rfl
theorem isN_str (x : Str) : isND (.str x) .none = .ok (.bool false) := rfl
theorem ntN_str (x : Str) : notND (.str x) .none = .ok (.bool true) := rfl
theorem isN_list (xs : List D) : isND (.list xs) .none = .ok (.bool false) := rfl
theorem ntN_list (xs : List D) : notND (.list xs) .none = .ok (.bool true) := rfl
theorem isN_tuple (xs : List D) : isND (.tuple xs) .none = .ok (.bool false) := rfl
theorem ntN_tuple (xs : List D) : notND (.tuple xs) .none = .ok (.bool true) := rfl
theorem len_list (xs : List D) : lenD [.list xs] = .ok (.int xs.length) := rfl
theorem len_tup (xs : List D) : lenD [.tuple xs] = .ok (.int xs.length) := rfl
theorem seq_list (xs : List D) : seqOf (.list xs) = .ok xs := rfl
theorem seq_tup (xs : List D) : seqOf (.tuple xs) = .ok xs := rfl
theorem tup_list (xs : List D) : tupleD [.list xs] = .ok (.tuple xs) := rfl
theorem tup_tup (xs : List D) : tupleD [.tuple xs] = .ok (.tuple xs) := rfl
theorem lst_list (xs : List D) : listD [.list xs] = .ok (.list xs) := rfl
theorem lst_tup (xs : List D) : listD [.tuple xs] = .ok (.list xs) := rfl
local macro_rules | `(tactic| walk_at "ev") => `(tactic| try simp (disch := first | decide | decide +kernel | omega) only [fnD, startF, endF, sSeq, sAsg, sSet, sSetV, sAsgV, sIf, sRet, sNew, sNewV, sMut, sMutV, sFor, sForR, sFreeze, sNil, sExpr, optK, thenR_ok, thenR_exc, thenR_stuck,
  view, mask, E3.eVar_zero, E3.eVar_succ, eC, e1, e2, eCall, eTup, eLst, eSl, oNone, oSome, eAnd, eOr, eIf, E3.tAnd, E3.tOr, E3.tNot, E3.tB, asB, notD, aNil, aCons, Res.bind_ok, Res.bind_exc, Res.bind_stuck,
  gT, gsCons, gsNil, gN, tupD, lstD, Slot.dat, Slot.shd, List.length_cons, List.length_nil, List.map_cons, List.map_nil, List.replicate, List.append_nil, List.cons_append, List.nil_append, Option.map_some, Option.map_none, Option.bind_some, Option.bind_none,
  List.getElem?_cons_zero, List.getElem?_cons_succ, List.set_cons_zero, List.set_cons_succ, Nat.reduceAdd, Nat.reduceSub, Nat.reduceEqDiff, if_true, if_false, ite_true, ite_false, reduceIte, decide_true, decide_false, reduceCtorEq, Bool.not_true, Bool.not_false, Bool.false_eq_true, Bool.true_eq_false, Bool.or_true, Bool.true_or, Bool.false_or, Bool.or_false, Bool.and_true, Bool.and_false, Bool.true_and, Bool.false_and, addI, subI, ltI, leI, gtI, geI, eqI, neI, negI, ix_cell0, ix_cell1, E3.le0, E3.le1, E3.le2, E3.le3, E3.le4, E3.le5, E3.le6, beq_self_eq_true, divmodI, modI, fdivI, powL, mulLL, isi_bool_none, isi_bool_bool, isi_bool_int, isi_bool_str, isi_bool_list, isi_bool_tuple, isi_int_none, isi_int_bool, isi_int_int, isi_int_str, isi_int_list, isi_int_tuple, isi_str_none, isi_str_bool, isi_str_int, isi_str_str, isi_str_list, isi_str_tuple, isi_list_none, isi_list_bool, isi_list_int, isi_list_str, isi_list_list, isi_list_tuple, isi_tuple_none, isi_tuple_bool, isi_tuple_int, isi_tuple_str, isi_tuple_list, isi_tuple_tuple, isN_none, ntN_none, isN_bool, ntN_bool, isN_int, ntN_int, isN_str, ntN_str, isN_list, ntN_list, isN_tuple, ntN_tuple, len_list, len_tup, seq_list, seq_tup, tup_list, tup_tup, lst_list, lst_tup])
def good : Nat → D → Prop
  | 0, d => match d with
    | .none => True
    | .bool _ => True
    | .int _ => True
    | .str x => SeqAt.shaped (.str x) = true
    | _ => False
  | n + 1, d => match d with
    | .none => True
    | .bool _ => True
    | .int _ => True
    | .str x => SeqAt.shaped (.str x) = true
    | .tuple xs => xs.length ≤ sizeLine ∧ ∀ x ∈ xs, good n x
    | .list xs => xs.length ≤ sizeLine ∧ ∀ x ∈ xs, good n x
    | _ => False
end E3
namespace E3
open PySem PySem.Spec PyProof.Rows L2
local macro_rules | `(tactic| walk_at "ev") => `(tactic| try simp (disch := first | decide | decide +kernel | omega) only [fnD, startF, endF, sSeq, sAsg, sSet, sSetV, sAsgV, sIf, sRet, sNew, sNewV, sMut, sMutV, sFor, sForR, sFreeze, sNil, sExpr, optK, thenR_ok, thenR_exc, thenR_stuck,
  view, mask, E3.eVar_zero, E3.eVar_succ, eC, e1, e2, eCall, eTup, eLst, eSl, oNone, oSome, eAnd, eOr, eIf, E3.tAnd, E3.tOr, E3.tNot, E3.tB, asB, notD, aNil, aCons, Res.bind_ok, Res.bind_exc, Res.bind_stuck,
  gT, gsCons, gsNil, gN, tupD, lstD, Slot.dat, Slot.shd, List.length_cons, List.length_nil, List.map_cons, List.map_nil, List.replicate, List.append_nil, List.cons_append, List.nil_append, Option.map_some, Option.map_none, Option.bind_some, Option.bind_none,
  List.getElem?_cons_zero, List.getElem?_cons_succ, List.set_cons_zero, List.set_cons_succ, Nat.reduceAdd, Nat.reduceSub, Nat.reduceEqDiff, if_true, if_false, ite_true, ite_false, reduceIte, decide_true, decide_false, reduceCtorEq, Bool.not_true, Bool.not_false, Bool.false_eq_true, Bool.true_eq_false, Bool.or_true, Bool.true_or, Bool.false_or, Bool.or_false, Bool.and_true, Bool.and_false, Bool.true_and, Bool.false_and, addI, subI, ltI, leI, gtI, geI, eqI, neI, E3.negI, ix_cell0, ix_cell1, E3.le0, E3.le1, E3.le2, E3.le3, E3.le4, E3.le5, E3.le6, beq_self_eq_true, E3.divmodI, E3.modI, E3.fdivI, E3.powL, E3.mulLL, E3.isi_bool_none, E3.isi_bool_bool, E3.isi_bool_int, E3.isi_bool_str, E3.isi_bool_list, E3.isi_bool_tuple, E3.isi_int_none, E3.isi_int_bool, E3.isi_int_int, E3.isi_int_str, E3.isi_int_list, E3.isi_int_tuple, E3.isi_str_none, E3.isi_str_bool, E3.isi_str_int, E3.isi_str_str, E3.isi_str_list, E3.isi_str_tuple, E3.isi_list_none, E3.isi_list_bool, E3.isi_list_int, E3.isi_list_str, E3.isi_list_list, E3.isi_list_tuple, E3.isi_tuple_none, E3.isi_tuple_bool, E3.isi_tuple_int, E3.isi_tuple_str, E3.isi_tuple_list, E3.isi_tuple_tuple, E3.isN_none, E3.ntN_none, E3.isN_bool, E3.ntN_bool, E3.isN_int, E3.ntN_int, E3.isN_str, E3.ntN_str, E3.isN_list, E3.ntN_list, E3.isN_tuple, E3.ntN_tuple, E3.len_list, E3.len_tup, E3.seq_list, E3.seq_tup, E3.tup_list, E3.tup_tup, E3.lst_list, E3.lst_tup])
theorem SN.mono {r : SR} {P Q : SS → Prop} (h : SN r P) (k : ∀ σ, P σ → Q σ) : SN r Q := let ⟨σ, e, p⟩ := h; ⟨σ, e, k σ p⟩
theorem SN.seq {g h : SF} {σ : SS} {P Q : SS → Prop} (a : SN (g σ) P) (b : ∀ σ', P σ' → SN (h σ') Q) : SN (sSeq g h σ) Q := by
  obtain ⟨σ1, e, p⟩ := a
  unfold sSeq
  rw [e]
  exact b σ1 p
theorem SN.thenT {g h : SF} {σ : SS} {P : SS → Prop} {Q : D → Prop} (a : SN (g σ) P) (b : ∀ σ', P σ' → ST (h σ') Q) : ST (sSeq g h σ) Q := by
  obtain ⟨σ1, e, p⟩ := a
  unfold sSeq
  rw [e]
  exact b σ1 p
theorem loop_ints {i : Nat} {body : SF} {Inv : SS → Prop} : ∀ (ms : List Int) (σ : SS), Inv σ → (∀ (m : Int) (σ : SS), Inv σ → SN (body (σ.set i (some (.sh (.int m))))) Inv) → ∃ σ', forS (gN i) body (ms.map .int) σ = .ok .nx σ' ∧ Inv σ'
  | [], σ, h, _ => ⟨σ, rfl, h⟩
  | m :: ms, σ, h, k => by
    obtain ⟨σ1, e1, h1⟩ := k m σ h
    obtain ⟨σ2, e2, h2⟩ := loop_ints ms σ1 h1 k
    refine ⟨σ2, ?_, h2⟩
    rw [List.map_cons]
    unfold forS
    show (match body (σ.set i (some (.sh (.int m)))) with
      | .ok .nx σ2 => forS (gN i) body (ms.map .int) σ2
      | .ok .ct σ2 => forS (gN i) body (ms.map .int) σ2
      | .ok .bk σ2 => .ok .nx σ2
      | .ok (.rt v) σ2 => .ok (.rt v) σ2
      | .exc x σ2 => .exc x σ2
      | .stuck => .stuck) = _
    rw [e1]
    exact e2
theorem ix_lst0 (a : D) (l : List D) : ixD (.list (a :: l)) (.int 0) = .ok a := by
  show optR (L2.atI (a :: l) 0) = _
  have : L2.atI (a :: l) 0 = some a := by
    unfold L2.atI ixN
    rw [if_pos (by omega), if_pos (by rw [List.length_cons]; omega)]; rfl
  rw [this]; rfl
theorem ix_at {l : List D} {k : Nat} {d : D} (h : l[k]? = some d) : ixD (.tuple l) (.int (k : Nat)) = .ok d ∧ ixD (.list l) (.int (k : Nat)) = .ok d := by
  have hk : k < l.length := (List.getElem?_eq_some_iff.mp h).1
  have e : L2.atI l ((k : Nat) : Int) = some d := by
    unfold L2.atI ixN
    rw [if_pos (by omega), if_pos (by omega)]
    simpa using h
  constructor
  · show optR (L2.atI l _) = _
    rw [e]; rfl
  · show optR (L2.atI l _) = _
    rw [e]; rfl
def lessC (p q : Int × Int) : Int × Int := (p.1 - q.1, p.2 - q.2)
def plusC (p q : Int × Int) : Int × Int := (p.1 + q.1, p.2 + q.2)
def dLessCell : List D → Res D := fnD 2 2 (sRet (eTup (aCons (e2 subD (e2 ixD (eVar 0) (eC (.int 0))) (e2 ixD (eVar 1) (eC (.int 0)))) (aCons (e2 subD (e2 ixD (eVar 0) (eC (.int 1))) (e2 ixD (eVar 1) (eC (.int 1)))) aNil))))
theorem less_ok (p q : Int × Int) : dLessCell [cellD p, cellD q] = .ok (cellD (lessC p q)) := rfl
theorem lc_cells {σ : DS} {k : Nat} {f : DS → Res D} {g : Int × Int → D} (ps : List (Int × Int)) (h : ∀ p ∈ ps, f ((σ.set k none).set k (some (cellD p))) = .ok (g p)) (hk : k < σ.length) :
    lcD (gN k) tYesD f (wipeD σ [k]) (ps.map cellD) = .ok (ps.map g) := by
  refine lc_of (g := cellD) (q := g) ps fun p hp => ⟨_, rfl, rfl, ?_⟩
  rw [← h p hp]
  congr 1
  show view ((upS (wipeD σ [k])).set k (some (.sh (cellD p)))) = _
  unfold view upS wipeD
  rw [List.map_set]
  show ((List.map _ (List.map _ ((wipeD σ []).set k none))).set k _) = _
  rw [List.map_map]
  have : ∀ l : DS, List.map ((fun o : Option Slot => Option.map Slot.dat o) ∘ fun o : Option D => Option.map Slot.sh o) l = l := fun l => by
    conv => rhs; rw [← List.map_id l]
    apply List.map_congr_left
    intro o _
    cases o <;> rfl
  rw [this]
  rfl
theorem lcC {it : DS → Res (List D)} {σ : DS} {k : Nat} {f : DS → Res D} {g : Int × Int → D} (ps : List (Int × Int)) (hi : it σ = .ok (ps.map cellD)) (hl : ps.length ≤ 10000) (h : ∀ p ∈ ps, f ((σ.set k none).set k (some (cellD p))) = .ok (g p)) (hk : k < σ.length) :
    eLc it (gN k) [k] tYesD f σ = .ok (.list (ps.map g)) := by
  unfold eLc
  rw [hi, Res.bind_ok, if_pos (by rw [List.length_map]; exact Nat.le_trans hl (by decide)), lc_cells ps h hk]
  rfl
end E3
namespace E3
open PySem PySem.Spec PyProof.Rows L2
local macro_rules | `(tactic| walk_at "ev") => `(tactic| try simp (disch := first | decide | decide +kernel | omega) only [fnD, startF, endF, sSeq, sAsg, sSet, sSetV, sAsgV, sIf, sRet, sNew, sNewV, sMut, sMutV, sFor, sForR, sFreeze, sNil, sExpr, optK, thenR_ok, thenR_exc, thenR_stuck,
  view, mask, E3.eVar_zero, E3.eVar_succ, eC, e1, e2, eCall, eTup, eLst, eSl, oNone, oSome, eAnd, eOr, eIf, E3.tAnd, E3.tOr, E3.tNot, E3.tB, asB, notD, aNil, aCons, Res.bind_ok, Res.bind_exc, Res.bind_stuck,
  gT, gsCons, gsNil, gN, tupD, lstD, Slot.dat, Slot.shd, List.length_cons, List.length_nil, List.map_cons, List.map_nil, List.replicate, List.append_nil, List.cons_append, List.nil_append, Option.map_some, Option.map_none, Option.bind_some, Option.bind_none,
  List.getElem?_cons_zero, List.getElem?_cons_succ, List.set_cons_zero, List.set_cons_succ, Nat.reduceAdd, Nat.reduceSub, Nat.reduceEqDiff, if_true, if_false, ite_true, ite_false, reduceIte, decide_true, decide_false, reduceCtorEq, Bool.not_true, Bool.not_false, Bool.false_eq_true, Bool.true_eq_false, Bool.or_true, Bool.true_or, Bool.false_or, Bool.or_false, Bool.and_true, Bool.and_false, Bool.true_and, Bool.false_and, addI, subI, ltI, leI, gtI, geI, eqI, neI, E3.negI, ix_cell0, ix_cell1, E3.le0, E3.le1, E3.le2, E3.le3, E3.le4, E3.le5, E3.le6, beq_self_eq_true, E3.divmodI, E3.modI, E3.fdivI, E3.powL, E3.mulLL, E3.isi_bool_none, E3.isi_bool_bool, E3.isi_bool_int, E3.isi_bool_str, E3.isi_bool_list, E3.isi_bool_tuple, E3.isi_int_none, E3.isi_int_bool, E3.isi_int_int, E3.isi_int_str, E3.isi_int_list, E3.isi_int_tuple, E3.isi_str_none, E3.isi_str_bool, E3.isi_str_int, E3.isi_str_str, E3.isi_str_list, E3.isi_str_tuple, E3.isi_list_none, E3.isi_list_bool, E3.isi_list_int, E3.isi_list_str, E3.isi_list_list, E3.isi_list_tuple, E3.isi_tuple_none, E3.isi_tuple_bool, E3.isi_tuple_int, E3.isi_tuple_str, E3.isi_tuple_list, E3.isi_tuple_tuple, E3.isN_none, E3.ntN_none, E3.isN_bool, E3.ntN_bool, E3.isN_int, E3.ntN_int, E3.isN_str, E3.ntN_str, E3.isN_list, E3.ntN_list, E3.isN_tuple, E3.ntN_tuple, E3.len_list, E3.len_tup, E3.seq_list, E3.seq_tup, E3.tup_list, E3.tup_tup, E3.lst_list, E3.lst_tup])
end E3
namespace E3
open PySem PySem.Spec PyProof.Rows L2
local macro_rules | `(tactic| walk_at "ev") => `(tactic| try simp (disch := first | decide | decide +kernel | omega) only [fnD, startF, endF, sSeq, sAsg, sSet, sSetV, sAsgV, sIf, sRet, sNew, sNewV, sMut, sMutV, sFor, sForR, sFreeze, sNil, sExpr, optK, thenR_ok, thenR_exc, thenR_stuck,
  view, mask, E3.eVar_zero, E3.eVar_succ, eC, e1, e2, eCall, eTup, eLst, eSl, oNone, oSome, eAnd, eOr, eIf, E3.tAnd, E3.tOr, E3.tNot, E3.tB, asB, notD, aNil, aCons, Res.bind_ok, Res.bind_exc, Res.bind_stuck,
  gT, gsCons, gsNil, gN, tupD, lstD, Slot.dat, Slot.shd, List.length_cons, List.length_nil, List.map_cons, List.map_nil, List.replicate, List.append_nil, List.cons_append, List.nil_append, Option.map_some, Option.map_none, Option.bind_some, Option.bind_none,
  List.getElem?_cons_zero, List.getElem?_cons_succ, List.set_cons_zero, List.set_cons_succ, Nat.reduceAdd, Nat.reduceSub, Nat.reduceEqDiff, if_true, if_false, ite_true, ite_false, reduceIte, decide_true, decide_false, reduceCtorEq, Bool.not_true, Bool.not_false, Bool.false_eq_true, Bool.true_eq_false, Bool.or_true, Bool.true_or, Bool.false_or, Bool.or_false, Bool.and_true, Bool.and_false, Bool.true_and, Bool.false_and, addI, subI, ltI, leI, gtI, geI, eqI, neI, E3.negI, ix_cell0, ix_cell1, E3.le0, E3.le1, E3.le2, E3.le3, E3.le4, E3.le5, E3.le6, beq_self_eq_true, E3.divmodI, E3.modI, E3.fdivI, E3.powL, E3.mulLL, E3.isi_bool_none, E3.isi_bool_bool, E3.isi_bool_int, E3.isi_bool_str, E3.isi_bool_list, E3.isi_bool_tuple, E3.isi_int_none, E3.isi_int_bool, E3.isi_int_int, E3.isi_int_str, E3.isi_int_list, E3.isi_int_tuple, E3.isi_str_none, E3.isi_str_bool, E3.isi_str_int, E3.isi_str_str, E3.isi_str_list, E3.isi_str_tuple, E3.isi_list_none, E3.isi_list_bool, E3.isi_list_int, E3.isi_list_str, E3.isi_list_list, E3.isi_list_tuple, E3.isi_tuple_none, E3.isi_tuple_bool, E3.isi_tuple_int, E3.isi_tuple_str, E3.isi_tuple_list, E3.isi_tuple_tuple, E3.isN_none, E3.ntN_none, E3.isN_bool, E3.ntN_bool, E3.isN_int, E3.ntN_int, E3.isN_str, E3.ntN_str, E3.isN_list, E3.ntN_list, E3.isN_tuple, E3.ntN_tuple, E3.len_list, E3.len_tup, E3.seq_list, E3.seq_tup, E3.tup_list, E3.tup_tup, E3.lst_list, E3.lst_tup])
theorem bools_of (l : List Bool) : boolsOf (l.map PyData.bool) = some l := by
  induction l with
  | nil => rfl
  | cons b l ih =>
    rw [List.map_cons]
    unfold boolsOf
    rw [ih]
    rfl
theorem all_bools (l : List Bool) : allD [.list (l.map PyData.bool)] = .ok (.bool (l.all id)) := by
  show overB _ _ = _
  unfold overB
  simp only [bools_of]
theorem any_bools (l : List Bool) : anyD [.list (l.map PyData.bool)] = .ok (.bool (l.any id)) := by
  show overB _ _ = _
  unfold overB
  simp only [bools_of]
end E3
namespace H3
open PySem PySem.Spec PyProof.Rows L2 E3
local macro_rules | `(tactic| walk_at "ev") => `(tactic| try simp (disch := first | decide | decide +kernel | omega) only [fnD, startF, endF, sSeq, sAsg, sSet, sSetV, sAsgV, sIf, sRet, sNew, sNewV, sMut, sMutV, sFor, sForR, sFreeze, sNil, sExpr, optK, thenR_ok, thenR_exc, thenR_stuck,
  view, mask, E3.eVar_zero, E3.eVar_succ, eC, e1, e2, eCall, eTup, eLst, eSl, oNone, oSome, eAnd, eOr, eIf, E3.tAnd, E3.tOr, E3.tNot, E3.tB, asB, notD, aNil, aCons, Res.bind_ok, Res.bind_exc, Res.bind_stuck,
  gT, gsCons, gsNil, gN, tupD, lstD, Slot.dat, Slot.shd, List.length_cons, List.length_nil, List.map_cons, List.map_nil, List.replicate, List.append_nil, List.cons_append, List.nil_append, Option.map_some, Option.map_none, Option.bind_some, Option.bind_none,
  List.getElem?_cons_zero, List.getElem?_cons_succ, List.set_cons_zero, List.set_cons_succ, Nat.reduceAdd, Nat.reduceSub, Nat.reduceEqDiff, if_true, if_false, ite_true, ite_false, reduceIte, decide_true, decide_false, reduceCtorEq, Bool.not_true, Bool.not_false, Bool.false_eq_true, Bool.true_eq_false, Bool.or_true, Bool.true_or, Bool.false_or, Bool.or_false, Bool.and_true, Bool.and_false, Bool.true_and, Bool.false_and, addI, subI, ltI, leI, gtI, geI, eqI, neI, E3.negI, ix_cell0, ix_cell1, E3.le0, E3.le1, E3.le2, E3.le3, E3.le4, E3.le5, E3.le6, beq_self_eq_true, Int.reduceBEq, E3.divmodI, E3.modI, E3.fdivI, E3.powL, E3.mulLL, E3.isi_bool_none, E3.isi_bool_bool, E3.isi_bool_int, E3.isi_bool_str, E3.isi_bool_list, E3.isi_bool_tuple, E3.isi_int_none, E3.isi_int_bool, E3.isi_int_int, E3.isi_int_str, E3.isi_int_list, E3.isi_int_tuple, E3.isi_str_none, E3.isi_str_bool, E3.isi_str_int, E3.isi_str_str, E3.isi_str_list, E3.isi_str_tuple, E3.isi_list_none, E3.isi_list_bool, E3.isi_list_int, E3.isi_list_str, E3.isi_list_list, E3.isi_list_tuple, E3.isi_tuple_none, E3.isi_tuple_bool, E3.isi_tuple_int, E3.isi_tuple_str, E3.isi_tuple_list, E3.isi_tuple_tuple, E3.isN_none, E3.ntN_none, E3.isN_bool, E3.ntN_bool, E3.isN_int, E3.ntN_int, E3.isN_str, E3.ntN_str, E3.isN_list, E3.ntN_list, E3.isN_tuple, E3.ntN_tuple, E3.len_list, E3.len_tup, E3.seq_list, E3.seq_tup, E3.tup_list, E3.tup_tup, E3.lst_list, E3.lst_tup])
def D_less_cell : List D → Res D := fnD 2 2 (sRet (eTup (aCons (e2 subD (e2 ixD (eVar 0) (eC (.int 0))) (e2 ixD (eVar 1) (eC (.int 0)))) (aCons (e2 subD (e2 ixD (eVar 0) (eC (.int 1))) (e2 ixD (eVar 1) (eC (.int 1)))) aNil))))
def D_moved_cell : List D → Res D := fnD 2 2 (sRet (eTup (aCons (e2 addD (e2 ixD (eVar 0) (eC (.int 0))) (e2 ixD (eVar 1) (eC (.int 0)))) (aCons (e2 addD (e2 ixD (eVar 0) (eC (.int 1))) (e2 ixD (eVar 1) (eC (.int 1)))) aNil))))
def D_lies_on : List D → Res D := fnD 3 2 (sRet (eLc (fun σ => ((eVar 0) σ).bind seqOf) (gN 2) [2] tYesD (eCall D_moved_cell (aCons (eVar 2) (aCons (eVar 1) aNil)))))
def D_rising : List D → Res D := fnD 1 1 (sRet (eCall tupleD (aCons (e1 BS.sortSetB (eVar 0)) aNil)))
def I_kept_at_1 : DS → Res (List D) := (fun σ => ((eVar 0) σ).bind seqOf)
def I_kept_at_2 : DS → Res (List D) := (fun σ => ((eVar 0) σ).bind seqOf)
def B_kept_at_1 : SF := (sSeq (sSet 5 (eCall D_less_cell (aCons (eVar 3) (aCons (e2 ixD (eVar 1) (eC (.int 0))) aNil))))
  (sIf (E3.tB (eCall allD (aCons (eLc (fun σ => ((eCall D_lies_on (aCons (eVar 1) (aCons (eVar 5) aNil))) σ).bind seqOf) (gN 6) [6] tYesD (e2 inG (eVar 6) (eVar 2))) aNil))) (sMut 4 appendM (aCons (eVar 5) aNil)) sNil))
def T_kept_at_1 : SF := (sFreeze 2 (sSeq (sNew 4 (eLst aNil))
  (sSeq (sFor I_kept_at_2 (gN 3)
  B_kept_at_1)
  (sFreeze 4 (sRet (eCall tupleD (aCons (eVar 4) aNil)))))))
def D_kept_at : List D → Res D := fnD 7 2 (sSeq (sNew 2 (eC (.dict [])))
  (sSeq (sFor I_kept_at_1 (gN 3)
  (sPut 2 (eVar 3) (eC (.bool true))))
  T_kept_at_1))
def negC (p : Int × Int) : Int × Int := (0 - p.1, 0 - p.2)
def reach (P cs : List (Int × Int)) : List (Int × Int) := cs.flatMap fun c => P.map fun s => plusC s c
theorem lies_ok (P : List (Int × Int)) (c : Int × Int) (hl : P.length ≤ 1000) : D_lies_on [tupC P, cellD c] = .ok (.list ((P.map fun s => plusC s c).map cellD)) := by
  unfold D_lies_on
  walk_at "ev"
  rw [lcC (g := fun s => cellD (plusC s c)) P rfl (by omega) (fun p _ => rfl) (show 2 < 3 by decide)]
  walk_at "ev"
  rw [List.map_map]
  rfl
def fitsB (P cs : List (Int × Int)) (p : Int × Int) : Bool := P.all fun s => decide (plusC s p ∈ cs)
def keptL (P cs : List (Int × Int)) (a : Int × Int) : List (Int × Int) := (cs.map fun c => lessC c a).filter (fitsB P cs)
theorem in_dict (ps : List (Int × Int)) (kvs : List (D × D)) (ho : obK kvs = false) (hk : ∀ p, hasK kvs (kOf p) = decide (p ∈ ps)) (p : Int × Int) : inG (cellD p) (.dict kvs) = .ok (.bool (decide (p ∈ ps))) := by
  have ky : keyOf (cellD p) = some (kOf p) := intsOf_map (kOf p)
  rw [inG_dict ho ky]
  simp only [val_has, hk]
theorem held_loop (P cs : List (Int × Int)) (hl : cs.length ≤ 10000) : ∃ (kvs : List (D × D)) (y3 : Option Slot), obK kvs = false ∧ (∀ p, hasK kvs (kOf p) = decide (p ∈ cs)) ∧
    forS (gN 3) (sPut 2 (eVar 3) (eC (.bool true))) (cs.map cellD) [some (.sh (tupC cs)), some (.sh (tupC P)), some (.ow (.dict [])), none, none, none, none] = .ok .nx [some (.sh (tupC cs)), some (.sh (tupC P)), some (.ow (.dict kvs)), y3, none, none, none] := by
  obtain ⟨σ', e, kvs, y8, ho, hk, hlen, rfl⟩ := forS_pre (p := gN 3) (body := sPut 2 (eVar 3) (eC (.bool true))) (g := cellD)
    (Inv := fun pre σ => ∃ (kvs : List (D × D)) (y8 : Option Slot), obK kvs = false ∧ (∀ p, hasK kvs (kOf p) = decide (p ∈ pre)) ∧ kvs.length ≤ pre.length ∧ σ = [some (.sh (tupC cs)), some (.sh (tupC P)), some (.ow (.dict kvs)), y8, none, none, none]) cs
    [some (.sh (tupC cs)), some (.sh (tupC P)), some (.ow (.dict [])), none, none, none, none] ⟨[], none, rfl, fun p => by simp [hasK], Nat.le_refl _, rfl⟩ (by
      rintro pre x post σ he ⟨kvs, y8, ho, hk, hlen, rfl⟩
      have hn : cs.length = pre.length + (post.length + 1) := by rw [he, List.length_append, List.length_cons]
      have hs : kvs.length < sizeLine := by have := sizeLine_eq; omega
      refine ⟨_, _, rfl, .inl ?_, putKD kvs (kOf x) (.bool true), some (.sh (cellD x)), ob_put _ _ ho, fun p => ?_, ?_, rfl⟩
      · have ky : keyOf (cellD x) = some (kOf x) := intsOf_map (kOf x)
        simp only [sPut, ownD, List.getElem?_cons_succ, List.getElem?_cons_zero, List.set_cons_succ, List.set_cons_zero, eC, thenR_ok, mask, List.map_cons, List.map_nil, eVar_succ, eVar_zero, Option.bind_some, Slot.shd, putS, ky, hs, if_true]
      · rw [has_put, hk]
        by_cases z : x = p
        · subst z; simp
        · have z2 : ¬ kOf x = kOf p := fun y => z (kOf_eq.mp y)
          have z3 : p ≠ x := fun y => z y.symm
          simp [z2, z3]
      · have := len_put kvs (kOf x) (.bool true)
        rw [List.length_append, List.length_singleton]; omega)
  exact ⟨kvs, y8, ho, hk, e⟩
def keptE : DS → Res D := eLc (fun σ => ((eCall D_lies_on (aCons (eVar 1) (aCons (eVar 5) aNil))) σ).bind seqOf) (gN 6) [6] tYesD (e2 inG (eVar 6) (eVar 2))
theorem q_kept : B_kept_at_1 = (sSeq (sSet 5 (eCall D_less_cell (aCons (eVar 3) (aCons (e2 ixD (eVar 1) (eC (.int 0))) aNil))))
  (sIf (E3.tB (eCall allD (aCons keptE aNil))) (sMut 4 appendM (aCons (eVar 5) aNil)) sNil)) := rfl
theorem kept_turn (P cs : List (Int × Int)) (a : Int × Int) (hP : ixD (tupC P) (.int 0) = .ok (cellD a)) (hl : P.length ≤ 1000) (kv : D) (hin : ∀ p, inG (cellD p) kv = .ok (.bool (decide (p ∈ cs)))) (c : Int × Int) (acc : List (Int × Int)) (ha : acc.length < 10000) (y5 : Option Slot) :
    B_kept_at_1 [some (.sh (tupC cs)), some (.sh (tupC P)), some (.sh kv), some (.sh (cellD c)), some (.ow (.list (acc.map cellD))), y5, none] =
      .ok .nx [some (.sh (tupC cs)), some (.sh (tupC P)), some (.sh kv), some (.sh (cellD c)), some (.ow (.list ((if fitsB P cs (lessC c a) then acc ++ [lessC c a] else acc).map cellD))), some (.sh (cellD (lessC c a))), none] := by
  have e1 : D_less_cell [cellD c, cellD a] = .ok (cellD (lessC c a)) := less_ok c a
  generalize lessC c a = q at *
  have e2 := lies_ok P q hl
  have lc : ∀ y4 : Option D, keptE [some (tupC cs), some (tupC P), some kv, some (cellD c), y4, some (cellD q), none] = .ok (.list (((P.map fun s => plusC s q).map fun p => decide (p ∈ cs)).map PyData.bool)) := fun y4 => by
    rw [List.map_map]
    exact lcC (g := fun p => .bool (decide (p ∈ cs))) (P.map fun s => plusC s q) (by
      show ((D_lies_on [tupC P, cellD q]).bind seqOf) = _
      rw [e2]; rfl) (by rw [List.length_map]; omega) (fun p _ => hin p) (show 6 < 7 by decide)
  have e3 := all_bools ((P.map fun s => plusC s q).map fun p => decide (p ∈ cs))
  have e4 : ((P.map fun s => plusC s q).map fun p => decide (p ∈ cs)).all id = fitsB P cs q := by
    unfold fitsB
    rw [List.all_map, List.all_map]
    rfl
  rw [e4] at e3
  generalize (((P.map fun s => plusC s q).map fun p => decide (p ∈ cs)).map PyData.bool) = bs at *
  have am : appendM (acc.map cellD) [cellD q] = some (.none, acc.map cellD ++ [cellD q]) := by
    have : (acc.map cellD).length < sizeLine := by rw [List.length_map, sizeLine_eq]; omega
    simp only [appendM, this, if_true]
  rw [q_kept]
  walk_at "ev"
  rw [hP]
  walk_at "ev"
  rw [e1]
  walk_at "ev"
  rw [lc]
  walk_at "ev"
  rw [e3]
  cases fitsB P cs q with
  | false => walk_at "ev"
  | true =>
    walk_at "ev"
    simp only [ownL, List.getElem?_cons_zero, List.getElem?_cons_succ]
    walk_at "ev"
    rw [am]
    simp only [mutK, List.getElem?_cons_zero, List.getElem?_cons_succ]
    walk_at "ev"
    rw [List.map_append]
    rfl
theorem kept_ok (P cs : List (Int × Int)) (a : Int × Int) (hP : ixD (tupC P) (.int 0) = .ok (cellD a)) (hl : P.length ≤ 1000) (hc : cs.length ≤ 9000) : D_kept_at [tupC cs, tupC P] = .ok (tupC (keptL P cs a)) := by
  obtain ⟨kvs, y3, ho, hk, e1⟩ := held_loop P cs (by omega)
  have hin := in_dict cs kvs ho hk
  generalize hkv : PyData.dict kvs = kv at *
  obtain ⟨σ', e, z3, z5, rfl⟩ := forS_pre (p := gN 3) (body := B_kept_at_1) (g := cellD) (Inv := fun pre σ => ∃ z3 z5, σ = [some (.sh (tupC cs)), some (.sh (tupC P)), some (.sh kv), z3, some (.ow (.list (((pre.map fun c => lessC c a).filter (fitsB P cs)).map cellD))), z5, none]) cs
    [some (.sh (tupC cs)), some (.sh (tupC P)), some (.sh kv), y3, some (.ow (.list [])), none, none] ⟨_, _, rfl⟩ (by
    rintro pre c post σ he ⟨z3, z5, rfl⟩
    have hlen : pre.length < 9001 := by
      have := congrArg List.length he
      rw [List.length_append, List.length_cons] at this
      omega
    have e := kept_turn P cs a hP hl kv hin c ((pre.map fun c => lessC c a).filter (fitsB P cs)) (Nat.lt_of_le_of_lt (List.length_filter_le _ _) (by rw [List.length_map]; omega)) z5
    refine ⟨_, _, rfl, .inl e, some (.sh (cellD c)), some (.sh (cellD (lessC c a))), ?_⟩
    have : (((pre ++ [c]).map fun c => lessC c a).filter (fitsB P cs)) = if fitsB P cs (lessC c a) then (pre.map fun c => lessC c a).filter (fitsB P cs) ++ [lessC c a] else (pre.map fun c => lessC c a).filter (fitsB P cs) := by
      rw [List.map_append, List.filter_append]
      cases h : fitsB P cs (lessC c a) <;> simp [h]
    rw [this])
  have i1 : ∀ y1 y2 y3 y4 y5 y6 : Option D, I_kept_at_1 [some (tupC cs), y1, y2, y3, y4, y5, y6] = .ok (cs.map cellD) := fun _ _ _ _ _ _ => rfl
  have i2 : ∀ y1 y2 y3 y4 y5 y6 : Option D, I_kept_at_2 [some (tupC cs), y1, y2, y3, y4, y5, y6] = .ok (cs.map cellD) := fun _ _ _ _ _ _ => rfl
  unfold D_kept_at
  walk_at "ev"
  rw [i1]
  walk_at "ev"
  rw [show forS (gN 3) (sPut 2 (eVar 3) (eC (.bool true))) (cs.map cellD) [some (.sh (tupC cs)), some (.sh (tupC P)), some (.ow (.dict [])), none, none, none, none] = _ from e1]
  walk_at "ev"
  unfold T_kept_at_1
  walk_at "ev"
  rw [i2]
  walk_at "ev"
  try rw [hkv]
  rw [show forS (gN 3) B_kept_at_1 (cs.map cellD) [some (.sh (tupC cs)), some (.sh (tupC P)), some (.sh kv), y3, some (.ow (.list [])), none, none] = _ from e]
  walk_at "ev"
  rfl
end H3
namespace H3
open PySem PySem.Spec PyProof.Rows L2 E3
local macro_rules | `(tactic| walk_at "ev") => `(tactic| try simp (disch := first | decide | decide +kernel | omega) only [fnD, startF, endF, sSeq, sAsg, sSet, sSetV, sAsgV, sIf, sRet, sNew, sNewV, sMut, sMutV, sFor, sForR, sFreeze, sNil, sExpr, optK, thenR_ok, thenR_exc, thenR_stuck,
  view, mask, E3.eVar_zero, E3.eVar_succ, eC, e1, e2, eCall, eTup, eLst, eSl, oNone, oSome, eAnd, eOr, eIf, E3.tAnd, E3.tOr, E3.tNot, E3.tB, asB, notD, aNil, aCons, Res.bind_ok, Res.bind_exc, Res.bind_stuck,
  gT, gsCons, gsNil, gN, tupD, lstD, Slot.dat, Slot.shd, List.length_cons, List.length_nil, List.map_cons, List.map_nil, List.replicate, List.append_nil, List.cons_append, List.nil_append, Option.map_some, Option.map_none, Option.bind_some, Option.bind_none,
  List.getElem?_cons_zero, List.getElem?_cons_succ, List.set_cons_zero, List.set_cons_succ, Nat.reduceAdd, Nat.reduceSub, Nat.reduceEqDiff, if_true, if_false, ite_true, ite_false, reduceIte, decide_true, decide_false, reduceCtorEq, Bool.not_true, Bool.not_false, Bool.false_eq_true, Bool.true_eq_false, Bool.or_true, Bool.true_or, Bool.false_or, Bool.or_false, Bool.and_true, Bool.and_false, Bool.true_and, Bool.false_and, addI, subI, ltI, leI, gtI, geI, eqI, neI, E3.negI, ix_cell0, ix_cell1, E3.le0, E3.le1, E3.le2, E3.le3, E3.le4, E3.le5, E3.le6, beq_self_eq_true, Int.reduceBEq, E3.divmodI, E3.modI, E3.fdivI, E3.powL, E3.mulLL, E3.isi_bool_none, E3.isi_bool_bool, E3.isi_bool_int, E3.isi_bool_str, E3.isi_bool_list, E3.isi_bool_tuple, E3.isi_int_none, E3.isi_int_bool, E3.isi_int_int, E3.isi_int_str, E3.isi_int_list, E3.isi_int_tuple, E3.isi_str_none, E3.isi_str_bool, E3.isi_str_int, E3.isi_str_str, E3.isi_str_list, E3.isi_str_tuple, E3.isi_list_none, E3.isi_list_bool, E3.isi_list_int, E3.isi_list_str, E3.isi_list_list, E3.isi_list_tuple, E3.isi_tuple_none, E3.isi_tuple_bool, E3.isi_tuple_int, E3.isi_tuple_str, E3.isi_tuple_list, E3.isi_tuple_tuple, E3.isN_none, E3.ntN_none, E3.isN_bool, E3.ntN_bool, E3.isN_int, E3.ntN_int, E3.isN_str, E3.ntN_str, E3.isN_list, E3.ntN_list, E3.isN_tuple, E3.ntN_tuple, E3.len_list, E3.len_tup, E3.seq_list, E3.seq_tup, E3.tup_list, E3.tup_tup, E3.lst_list, E3.lst_tup])
def mir (P : List (Int × Int)) : List (Int × Int) := srt (P.map negC)
def ea (cs : List (Int × Int)) (r : Bool) (P : List (Int × Int)) : List (Int × Int) := if r then srt (reach (mir P) cs) else keptL P cs (P.headD (0, 0))
end H3
namespace E3
open PySem PySem.Spec PyProof.Rows L2
theorem flatR_i (i : Int) : flatR (.ok (.int i)) = .ok (.int i) := rfl
theorem flatR_b (i : Bool) : flatR (.ok (.bool i)) = .ok (.bool i) := rfl
theorem flatR_ii (i j : Int) : flatR (.ok (.tuple [.int i, .int j])) = .ok (.tuple [.int i, .int j]) := rfl
theorem flatR_c (p : Int × Int) : flatR (.ok (cellD p)) = .ok (cellD p) := rfl
def PQ (r : Res (D × List D)) (P : D → Prop) : Prop := ∃ d n, r = .ok (d, [.int n]) ∧ 0 ≤ n ∧ P d
theorem PQ.ok {d : D} {n : Int} {P : D → Prop} (hn : 0 ≤ n) (h : P d) : PQ (.ok (d, [.int n])) P := ⟨d, n, rfl, hn, h⟩
end E3
namespace H6
open PySem PySem.Spec PyProof.Rows L2 E3
def D_law_mixed : List D → Res D := fnD 3 2 (sSeq (sSet 2 (e2 modD (e2 mulD (e2 addD (e2 addD (e2 modD (eVar 0) (eC (.int 1000000000000000009))) (e2 mulD (eC (.int 7919)) (eVar 1))) (eC (.int 12345))) (eC (.int 48271))) (eC (.int 2305843009213693951))))
  (sSeq (sSet 2 (e2 modD (e2 mulD (eVar 2) (eVar 2)) (eC (.int 2305843009213693921))))
  (sRet (e2 fdivD (e2 modD (e2 mulD (e2 addD (eVar 2) (eVar 1)) (eC (.int 69621))) (eC (.int 2305843009213693951))) (eC (.int 8))))))
def C_law_deal_1 : SF := (qRet (xM (eLst (aCons (e2 subD (eVar 0) (e2 powD (eC (.int 10)) (eC (.int 18)))) aNil))))
def I_law_deal_1 : DS → Res (List D) := (fun σ => ((aCons (eC (.int 24)) aNil) σ).bind rng1)
def B_law_deal_1 : SF := (qSet 1 (xM (e2 addD (e2 mulD (eVar 1) (eC (.int 1152921504606846976))) (e2 modD (eCall D_law_mixed (aCons (eVar 0) (aCons (eVar 2) aNil))) (eC (.int 1152921504606846976))))))
def D_law_deal : List D → Res D := fnN 3 1 (sSeq (qIf (xB (tB (e2 geD (eVar 0) (e2 powD (eC (.int 10)) (eC (.int 18)))))) C_law_deal_1 sNil)
  (sSeq (qSet 1 (xM (eC (.int 0))))
  (sSeq (sFor I_law_deal_1 (gN 2)
  B_law_deal_1)
  (qRet (xM (eLst (aCons (eVar 1) aNil)))))))
def D_law_next : PF := fnP 3 2 (sSeq (qAsg (gT 2 (gsCons (gStore 0 0) (gsCons (gN 2) gsNil))) (xV (eCall divmodD (aCons (e2 ixD (eVar 0) (eC (.int 0))) (aCons (eVar 1) aNil)))))
  (qRet (xM (eVar 2))))
section
local macro_rules | `(tactic| walk_at "ev") => `(tactic| try simp (disch := first | decide | decide +kernel | omega) only [fnD, startF, endF, sSeq, sAsg, sSet, sSetV, sAsgV, sIf, sRet, sNew, sNewV, sMut, sMutV, sFor, sForR, sFreeze, sNil, sExpr, optK, thenR_ok, thenR_exc, thenR_stuck,
  view, mask, E3.eVar_zero, E3.eVar_succ, eC, e1, e2, eCall, eTup, eLst, eSl, oNone, oSome, eAnd, eOr, eIf, E3.tAnd, E3.tOr, E3.tNot, E3.tB, asB, notD, aNil, aCons, Res.bind_ok, Res.bind_exc, Res.bind_stuck,
  gT, gsCons, gsNil, gN, tupD, lstD, Slot.dat, Slot.shd, List.length_cons, List.length_nil, List.map_cons, List.map_nil, List.replicate, List.append_nil, List.cons_append, List.nil_append, Option.map_some, Option.map_none, Option.bind_some, Option.bind_none,
  List.getElem?_cons_zero, List.getElem?_cons_succ, List.set_cons_zero, List.set_cons_succ, Nat.reduceAdd, Nat.reduceSub, Nat.reduceEqDiff, if_true, if_false, ite_true, ite_false, reduceIte, decide_true, decide_false, reduceCtorEq, Bool.not_true, Bool.not_false, Bool.false_eq_true, Bool.true_eq_false, Bool.or_true, Bool.true_or, Bool.false_or, Bool.or_false, Bool.and_true, Bool.and_false, Bool.true_and, Bool.false_and, addI, subI, ltI, leI, gtI, geI, eqI, neI, E3.negI, ix_cell0, ix_cell1, E3.le0, E3.le1, E3.le2, E3.le3, E3.le4, E3.le5, E3.le6, beq_self_eq_true, Int.reduceBEq, E3.divmodI, E3.modI, E3.fdivI, E3.powL, E3.mulLL, E3.isi_bool_none, E3.isi_bool_bool, E3.isi_bool_int, E3.isi_bool_str, E3.isi_bool_list, E3.isi_bool_tuple, E3.isi_int_none, E3.isi_int_bool, E3.isi_int_int, E3.isi_int_str, E3.isi_int_list, E3.isi_int_tuple, E3.isi_str_none, E3.isi_str_bool, E3.isi_str_int, E3.isi_str_str, E3.isi_str_list, E3.isi_str_tuple, E3.isi_list_none, E3.isi_list_bool, E3.isi_list_int, E3.isi_list_str, E3.isi_list_list, E3.isi_list_tuple, E3.isi_tuple_none, E3.isi_tuple_bool, E3.isi_tuple_int, E3.isi_tuple_str, E3.isi_tuple_list, E3.isi_tuple_tuple, E3.isN_none, E3.ntN_none, E3.isN_bool, E3.ntN_bool, E3.isN_int, E3.ntN_int, E3.isN_str, E3.ntN_str, E3.isN_list, E3.ntN_list, E3.isN_tuple, E3.ntN_tuple, E3.len_list, E3.len_tup, E3.seq_list, E3.seq_tup, E3.tup_list, E3.tup_tup, E3.lst_list, E3.lst_tup, xM, xV, xB, xTB, x2, xAnd, xNil, xCons, xTup, xLst, xCall, xSl, xPot, ownX, potK, XR.bind_ok, XR.bind_exc, XR.bind_stuck, XR.of_ok, XR.of_exc, XR.of_stuck, thenX_ok, thenX_exc, thenX_stuck, qSet, qRet, qIf, qAsg, qForR, qFor, E3.flatR_i, E3.flatR_b, E3.flatR_ii, E3.flatR_c, fnP, startP, endP, fnN, endN, E3.ix_lst0])
theorem next_ok {n m : Int} (hm : 0 < m) (hl : m.natAbs.log2 < 9000) : D_law_next [.int n] [.int m] = .ok (.int (n % m), [.int (n / m)]) := by
  unfold D_law_next
  walk_at "ev"
  rfl
theorem nextI {n m : Int} (h : decide (0 < m ∧ m.natAbs.log2 < 9000) = true) : D_law_next [.int n] [.int m] = .ok (.int (n % m), [.int (n / m)]) :=
  next_ok (of_decide_eq_true h).1 (of_decide_eq_true h).2
theorem mixed_ok (c : Int) (k : Nat) (hk : k < 24) : ∃ m : Int, 0 ≤ m ∧ D_law_mixed [.int c, .int (k : Nat)] = .ok (.int m) := by
  have hkI : (0 : Int) ≤ (k : Nat) ∧ ((k : Nat) : Int) < 24 := by omega
  generalize ((k : Nat) : Int) = j at hkI ⊢
  have r1 := Int.emod_nonneg c (show (1000000000000000009 : Int) ≠ 0 by decide)
  have r2 := Int.emod_lt_of_pos c (show (0 : Int) < 1000000000000000009 by decide)
  unfold D_law_mixed
  walk_at "ev"
  rw [mulB 20 8 (by omega) (by omega) (by decide)]
  walk_at "ev"
  generalize c % 1000000000000000009 = z at r1 r2 ⊢
  rw [mulB 70 20 (by omega) (by omega) (by decide)]
  walk_at "ev"
  have r3 := Int.emod_nonneg ((z + 7919 * j + 12345) * 48271) (show (2305843009213693951 : Int) ≠ 0 by decide)
  have r4 := Int.emod_lt_of_pos ((z + 7919 * j + 12345) * 48271) (show (0 : Int) < 2305843009213693951 by decide)
  generalize (z + 7919 * j + 12345) * 48271 % 2305843009213693951 = y at r3 r4 ⊢
  rw [mulB 70 70 (by omega) (by omega) (by decide)]
  walk_at "ev"
  have r5 := Int.emod_nonneg (y * y) (show (2305843009213693921 : Int) ≠ 0 by decide)
  have r6 := Int.emod_lt_of_pos (y * y) (show (0 : Int) < 2305843009213693921 by decide)
  generalize y * y % 2305843009213693921 = x at r5 r6 ⊢
  rw [mulB 70 20 (by omega) (by omega) (by decide)]
  walk_at "ev"
  have r7 := Int.emod_nonneg ((x + j) * 69621) (show (2305843009213693951 : Int) ≠ 0 by decide)
  exact ⟨_, by omega, rfl⟩
theorem deal_turn (c great : Int) (k b : Nat) (hk : k < 24) (hg : 0 ≤ great ∧ great < 2 ^ b) (hb : b + 61 < 999000) : ∃ great' : Int, (0 ≤ great' ∧ great' < 2 ^ (b + 61)) ∧
    B_law_deal_1 [some (.sh (.int c)), some (.sh (.int great)), some (.sh (.int (k : Nat)))] = .ok .nx [some (.sh (.int c)), some (.sh (.int great')), some (.sh (.int (k : Nat)))] := by
  obtain ⟨m, h0, e⟩ := mixed_ok c k hk
  unfold B_law_deal_1
  walk_at "ev"
  have hp : (0 : Int) < 2 ^ b := Int.pow_pos (by decide)
  rw [mulB b 61 (by omega) (by omega) (by omega)]
  walk_at "ev"
  rw [e]
  walk_at "ev"
  have r1 := Int.emod_nonneg m (show (1152921504606846976 : Int) ≠ 0 by decide)
  have r2 := Int.emod_lt_of_pos m (show (0 : Int) < 1152921504606846976 by decide)
  generalize m % 1152921504606846976 = x at r1 r2 ⊢
  have e2 : (2 : Int) ^ (b + 61) = 2 ^ b * 2305843009213693952 := by rw [Int.pow_add]; rfl
  exact ⟨_, ⟨by omega, by omega⟩, rfl⟩
theorem deal_ok (c : Int) : ∃ n : Int, 0 ≤ n ∧ D_law_deal [.int c] = .ok (.list [.int n]) := by
  by_cases hc : (1000000000000000000 : Int) ≤ c
  · refine ⟨c - 10 ^ 18, by omega, ?_⟩
    unfold D_law_deal C_law_deal_1
    walk_at "ev"
    have e : decide ((10 : Int) ^ Int.toNat 18 ≤ c) = true := decide_eq_true (by show (10 : Int) ^ 18 ≤ c; omega)
    rw [e]
    walk_at "ev"
    rfl
  · obtain ⟨σ', e, great, x2, hg, rfl⟩ := forS_pre (p := gN 2) (body := B_law_deal_1) (g := fun k : Nat => PyData.int (k : Nat))
      (Inv := fun pre σ => ∃ (great : Int) (x2 : Option Slot), (0 ≤ great ∧ great < 2 ^ (61 * pre.length)) ∧
        σ = [some (.sh (.int c)), some (.sh (.int great)), x2]) (List.range 24)
      [some (.sh (.int c)), some (.sh (.int 0)), none]
      ⟨0, none, ⟨by omega, by decide⟩, rfl⟩ (by
      rintro pre k post σ he ⟨great, x2, hg, rfl⟩
      have hk : k < 24 := List.mem_range.mp (by rw [he]; simp)
      have hl : pre.length < 24 := by
        have := congrArg List.length he
        rw [List.length_range, List.length_append, List.length_cons] at this
        omega
      obtain ⟨great', h1, h2⟩ := deal_turn c great k (61 * pre.length) hk hg (by omega)
      refine ⟨_, _, rfl, .inl h2, great', some (.sh (.int (k : Nat))), ⟨h1.1, ?_⟩, rfl⟩
      rw [List.length_append, List.length_singleton, Nat.mul_add, Nat.mul_one]
      exact h1.2)
    refine ⟨great, hg.1, ?_⟩
    have it : ∀ y : DS, I_law_deal_1 y = .ok ((List.range 24).map fun k : Nat => PyData.int (k : Nat)) := fun y => rng1_nat (m := 24) (by decide) (by decide)
    unfold D_law_deal
    walk_at "ev"
    have e1 : decide ((10 : Int) ^ Int.toNat 18 ≤ c) = false := decide_eq_false (by show ¬ (10 : Int) ^ 18 ≤ c; omega)
    rw [e1]
    walk_at "ev"
    rw [it]
    walk_at "ev"
    rw [e]
    walk_at "ev"
end
section
local macro_rules | `(tactic| walk_at "ev") => `(tactic| try simp (disch := first | decide | decide +kernel | omega) only [fnD, startF, endF, sSeq, sAsg, sSet, sSetV, sAsgV, sIf, sRet, sNew, sNewV, sMut, sMutV, sFor, sForR, sFreeze, sNil, sExpr, optK, thenR_ok, thenR_exc, thenR_stuck,
  view, mask, E3.eVar_zero, E3.eVar_succ, eC, e1, e2, eCall, eTup, eLst, eSl, oNone, oSome, eAnd, eOr, eIf, E3.tAnd, E3.tOr, E3.tNot, E3.tB, asB, notD, aNil, aCons, Res.bind_ok, Res.bind_exc, Res.bind_stuck,
  gT, gsCons, gsNil, gN, tupD, lstD, Slot.dat, Slot.shd, List.length_cons, List.length_nil, List.map_cons, List.map_nil, List.replicate, List.append_nil, List.cons_append, List.nil_append, Option.map_some, Option.map_none, Option.bind_some, Option.bind_none,
  List.getElem?_cons_zero, List.getElem?_cons_succ, List.set_cons_zero, List.set_cons_succ, Nat.reduceAdd, Nat.reduceSub, Nat.reduceEqDiff, if_true, if_false, ite_true, ite_false, reduceIte, decide_true, decide_false, reduceCtorEq, Bool.not_true, Bool.not_false, Bool.false_eq_true, Bool.true_eq_false, Bool.or_true, Bool.true_or, Bool.false_or, Bool.or_false, Bool.and_true, Bool.and_false, Bool.true_and, Bool.false_and, addI, subI, ltI, leI, gtI, geI, eqI, neI, E3.negI, ix_cell0, ix_cell1, E3.le0, E3.le1, E3.le2, E3.le3, E3.le4, E3.le5, E3.le6, beq_self_eq_true, Int.reduceBEq, E3.divmodI, E3.modI, E3.fdivI, E3.powL, E3.mulLL, E3.isi_bool_none, E3.isi_bool_bool, E3.isi_bool_int, E3.isi_bool_str, E3.isi_bool_list, E3.isi_bool_tuple, E3.isi_int_none, E3.isi_int_bool, E3.isi_int_int, E3.isi_int_str, E3.isi_int_list, E3.isi_int_tuple, E3.isi_str_none, E3.isi_str_bool, E3.isi_str_int, E3.isi_str_str, E3.isi_str_list, E3.isi_str_tuple, E3.isi_list_none, E3.isi_list_bool, E3.isi_list_int, E3.isi_list_str, E3.isi_list_list, E3.isi_list_tuple, E3.isi_tuple_none, E3.isi_tuple_bool, E3.isi_tuple_int, E3.isi_tuple_str, E3.isi_tuple_list, E3.isi_tuple_tuple, E3.isN_none, E3.ntN_none, E3.isN_bool, E3.ntN_bool, E3.isN_int, E3.ntN_int, E3.isN_str, E3.ntN_str, E3.isN_list, E3.ntN_list, E3.isN_tuple, E3.ntN_tuple, E3.len_list, E3.len_tup, E3.seq_list, E3.seq_tup, E3.tup_list, E3.tup_tup, E3.lst_list, E3.lst_tup, xM, xV, xB, xTB, x2, xAnd, xNil, xCons, xTup, xLst, xCall, xSl, xPot, ownX, potK, XR.bind_ok, XR.bind_exc, XR.bind_stuck, XR.of_ok, XR.of_exc, XR.of_stuck, thenX_ok, thenX_exc, thenX_stuck, qSet, qRet, qIf, qAsg, qForR, qFor, E3.flatR_i, E3.flatR_b, E3.flatR_ii, E3.flatR_c, fnP, startP, endP, fnN, endN, E3.ix_lst0, H6.nextI])
end
end H6
namespace H6
open PySem PySem.Spec PyProof.Rows L2 E3
local macro_rules | `(tactic| walk_at "ev") => `(tactic| try simp (disch := first | decide | decide +kernel | omega) only [fnD, startF, endF, sSeq, sAsg, sSet, sSetV, sAsgV, sIf, sRet, sNew, sNewV, sMut, sMutV, sFor, sForR, sFreeze, sNil, sExpr, optK, thenR_ok, thenR_exc, thenR_stuck,
  view, mask, E3.eVar_zero, E3.eVar_succ, eC, e1, e2, eCall, eTup, eLst, eSl, oNone, oSome, eAnd, eOr, eIf, E3.tAnd, E3.tOr, E3.tNot, E3.tB, asB, notD, aNil, aCons, Res.bind_ok, Res.bind_exc, Res.bind_stuck,
  gT, gsCons, gsNil, gN, tupD, lstD, Slot.dat, Slot.shd, List.length_cons, List.length_nil, List.map_cons, List.map_nil, List.replicate, List.append_nil, List.cons_append, List.nil_append, Option.map_some, Option.map_none, Option.bind_some, Option.bind_none,
  List.getElem?_cons_zero, List.getElem?_cons_succ, List.set_cons_zero, List.set_cons_succ, Nat.reduceAdd, Nat.reduceSub, Nat.reduceEqDiff, if_true, if_false, ite_true, ite_false, reduceIte, decide_true, decide_false, reduceCtorEq, Bool.not_true, Bool.not_false, Bool.false_eq_true, Bool.true_eq_false, Bool.or_true, Bool.true_or, Bool.false_or, Bool.or_false, Bool.and_true, Bool.and_false, Bool.true_and, Bool.false_and, addI, subI, ltI, leI, gtI, geI, eqI, neI, E3.negI, ix_cell0, ix_cell1, E3.le0, E3.le1, E3.le2, E3.le3, E3.le4, E3.le5, E3.le6, beq_self_eq_true, Int.reduceBEq, E3.divmodI, E3.modI, E3.fdivI, E3.powL, E3.mulLL, E3.isi_bool_none, E3.isi_bool_bool, E3.isi_bool_int, E3.isi_bool_str, E3.isi_bool_list, E3.isi_bool_tuple, E3.isi_int_none, E3.isi_int_bool, E3.isi_int_int, E3.isi_int_str, E3.isi_int_list, E3.isi_int_tuple, E3.isi_str_none, E3.isi_str_bool, E3.isi_str_int, E3.isi_str_str, E3.isi_str_list, E3.isi_str_tuple, E3.isi_list_none, E3.isi_list_bool, E3.isi_list_int, E3.isi_list_str, E3.isi_list_list, E3.isi_list_tuple, E3.isi_tuple_none, E3.isi_tuple_bool, E3.isi_tuple_int, E3.isi_tuple_str, E3.isi_tuple_list, E3.isi_tuple_tuple, E3.isN_none, E3.ntN_none, E3.isN_bool, E3.ntN_bool, E3.isN_int, E3.ntN_int, E3.isN_str, E3.ntN_str, E3.isN_list, E3.ntN_list, E3.isN_tuple, E3.ntN_tuple, E3.len_list, E3.len_tup, E3.seq_list, E3.seq_tup, E3.tup_list, E3.tup_tup, E3.lst_list, E3.lst_tup, xM, xV, xB, xTB, x2, xAnd, xNil, xCons, xTup, xLst, xCall, xSl, xPot, ownX, potK, XR.bind_ok, XR.bind_exc, XR.bind_stuck, XR.of_ok, XR.of_exc, XR.of_stuck, thenX_ok, thenX_exc, thenX_stuck, qSet, qRet, qIf, qAsg, qForR, qFor, E3.flatR_i, E3.flatR_b, E3.flatR_ii, E3.flatR_c, fnP, startP, endP, fnN, endN, E3.ix_lst0, H6.nextI])
end H6
namespace H6
open PySem PySem.Spec PyProof.Rows L2 E3
local macro_rules | `(tactic| walk_at "ev") => `(tactic| try simp (disch := first | decide | decide +kernel | omega) only [fnD, startF, endF, sSeq, sAsg, sSet, sSetV, sAsgV, sIf, sRet, sNew, sNewV, sMut, sMutV, sFor, sForR, sFreeze, sNil, sExpr, optK, thenR_ok, thenR_exc, thenR_stuck,
  view, mask, E3.eVar_zero, E3.eVar_succ, eC, e1, e2, eCall, eTup, eLst, eSl, oNone, oSome, eAnd, eOr, eIf, E3.tAnd, E3.tOr, E3.tNot, E3.tB, asB, notD, aNil, aCons, Res.bind_ok, Res.bind_exc, Res.bind_stuck,
  gT, gsCons, gsNil, gN, tupD, lstD, Slot.dat, Slot.shd, List.length_cons, List.length_nil, List.map_cons, List.map_nil, List.replicate, List.append_nil, List.cons_append, List.nil_append, Option.map_some, Option.map_none, Option.bind_some, Option.bind_none,
  List.getElem?_cons_zero, List.getElem?_cons_succ, List.set_cons_zero, List.set_cons_succ, Nat.reduceAdd, Nat.reduceSub, Nat.reduceEqDiff, if_true, if_false, ite_true, ite_false, reduceIte, decide_true, decide_false, reduceCtorEq, Bool.not_true, Bool.not_false, Bool.false_eq_true, Bool.true_eq_false, Bool.or_true, Bool.true_or, Bool.false_or, Bool.or_false, Bool.and_true, Bool.and_false, Bool.true_and, Bool.false_and, addI, subI, ltI, leI, gtI, geI, eqI, neI, E3.negI, ix_cell0, ix_cell1, E3.le0, E3.le1, E3.le2, E3.le3, E3.le4, E3.le5, E3.le6, beq_self_eq_true, Int.reduceBEq, E3.divmodI, E3.modI, E3.fdivI, E3.powL, E3.mulLL, E3.isi_bool_none, E3.isi_bool_bool, E3.isi_bool_int, E3.isi_bool_str, E3.isi_bool_list, E3.isi_bool_tuple, E3.isi_int_none, E3.isi_int_bool, E3.isi_int_int, E3.isi_int_str, E3.isi_int_list, E3.isi_int_tuple, E3.isi_str_none, E3.isi_str_bool, E3.isi_str_int, E3.isi_str_str, E3.isi_str_list, E3.isi_str_tuple, E3.isi_list_none, E3.isi_list_bool, E3.isi_list_int, E3.isi_list_str, E3.isi_list_list, E3.isi_list_tuple, E3.isi_tuple_none, E3.isi_tuple_bool, E3.isi_tuple_int, E3.isi_tuple_str, E3.isi_tuple_list, E3.isi_tuple_tuple, E3.isN_none, E3.ntN_none, E3.isN_bool, E3.ntN_bool, E3.isN_int, E3.ntN_int, E3.isN_str, E3.ntN_str, E3.isN_list, E3.ntN_list, E3.isN_tuple, E3.ntN_tuple, E3.len_list, E3.len_tup, E3.seq_list, E3.seq_tup, E3.tup_list, E3.tup_tup, E3.lst_list, E3.lst_tup, xM, xV, xB, xTB, x2, xAnd, xNil, xCons, xTup, xLst, xCall, xSl, xPot, ownX, potK, XR.bind_ok, XR.bind_exc, XR.bind_stuck, XR.of_ok, XR.of_exc, XR.of_stuck, thenX_ok, thenX_exc, thenX_stuck, qSet, qRet, qIf, qAsg, qForR, qFor, E3.flatR_i, E3.flatR_b, E3.flatR_ii, E3.flatR_c, fnP, startP, endP, fnN, endN, E3.ix_lst0, H6.nextI, Int.cast_ofNat_Int])
end H6
namespace H48
open PySem PySem.Spec PyProof.Rows L2 E3 
local macro_rules | `(tactic| walk_at "ev") => `(tactic| try simp (disch := first | decide | decide +kernel | omega) only [fnD, xOr, xNot, startF, endF, sSeq, sAsg, sSet, sSetV, sAsgV, sIf, sRet, sNew, sNewV, sMut, sMutV, sFor, sForR, sFreeze, sNil, sExpr, optK, thenR_ok, thenR_exc, thenR_stuck,
  view, mask, E3.eVar_zero, E3.eVar_succ, eC, e1, e2, eCall, eTup, eLst, eSl, oNone, oSome, eAnd, eOr, eIf, E3.tAnd, E3.tOr, E3.tNot, E3.tB, asB, notD, aNil, aCons, Res.bind_ok, Res.bind_exc, Res.bind_stuck,
  gT, gsCons, gsNil, gN, tupD, lstD, Slot.dat, Slot.shd, List.length_cons, List.length_nil, List.map_cons, List.map_nil, List.replicate, List.append_nil, List.cons_append, List.nil_append, Option.map_some, Option.map_none, Option.bind_some, Option.bind_none,
  List.getElem?_cons_zero, List.getElem?_cons_succ, List.set_cons_zero, List.set_cons_succ, Nat.reduceAdd, Nat.reduceSub, Nat.reduceEqDiff, if_true, if_false, ite_true, ite_false, reduceIte, decide_true, decide_false, reduceCtorEq, Bool.not_true, Bool.not_false, Bool.false_eq_true, Bool.true_eq_false, Bool.or_true, Bool.true_or, Bool.false_or, Bool.or_false, Bool.and_true, Bool.and_false, Bool.true_and, Bool.false_and, addI, subI, ltI, leI, gtI, geI, eqI, neI, E3.negI, ix_cell0, ix_cell1, E3.le0, E3.le1, E3.le2, E3.le3, E3.le4, E3.le5, E3.le6, beq_self_eq_true, Int.reduceBEq, E3.divmodI, E3.modI, E3.fdivI, E3.powL, E3.mulLL, E3.isi_bool_none, E3.isi_bool_bool, E3.isi_bool_int, E3.isi_bool_str, E3.isi_bool_list, E3.isi_bool_tuple, E3.isi_int_none, E3.isi_int_bool, E3.isi_int_int, E3.isi_int_str, E3.isi_int_list, E3.isi_int_tuple, E3.isi_str_none, E3.isi_str_bool, E3.isi_str_int, E3.isi_str_str, E3.isi_str_list, E3.isi_str_tuple, E3.isi_list_none, E3.isi_list_bool, E3.isi_list_int, E3.isi_list_str, E3.isi_list_list, E3.isi_list_tuple, E3.isi_tuple_none, E3.isi_tuple_bool, E3.isi_tuple_int, E3.isi_tuple_str, E3.isi_tuple_list, E3.isi_tuple_tuple, E3.isN_none, E3.ntN_none, E3.isN_bool, E3.ntN_bool, E3.isN_int, E3.ntN_int, E3.isN_str, E3.ntN_str, E3.isN_list, E3.ntN_list, E3.isN_tuple, E3.ntN_tuple, E3.len_list, E3.len_tup, E3.seq_list, E3.seq_tup, E3.tup_list, E3.tup_tup, E3.lst_list, E3.lst_tup, xM, xV, xB, xTB, x2, xAnd, xNil, xCons, xTup, xLst, xCall, xSl, xPotd, ownXd, potKd, ePotE, dropKV, fnPd, startPd, endPd, slL, eSlL, xPot, ownX, potK, XR.bind_ok, XR.bind_exc, XR.bind_stuck, XR.of_ok, XR.of_exc, XR.of_stuck, thenX_ok, thenX_exc, thenX_stuck, qSet, qRet, qIf, qAsg, qForR, qFor, H70.fR_i, H70.fR_b, H70.fR_ii, H70.fR_c, fnP, startP, endP, fnL, startL, endL, xPotL, xLast, fnN, endN, E3.ix_lst0, Int.cast_ofNat_Int])
local macro_rules | `(tactic| walk_at "evs") => `(tactic| try simp (disch := first | decide | decide +kernel | omega) only [fnD, xOr, xNot, startF, endF, sSeq, sAsg, sSet, sSetV, sAsgV, sIf, sRet, sNew, sNewV, sMut, sMutV, sFor, sForR, sFreeze, sNil, sExpr, optK, thenR_ok, thenR_exc, thenR_stuck,
  view, mask, E3.eVar_zero, E3.eVar_succ, eC, e1, e2, eCall, eTup, eLst, eSl, oNone, oSome, eAnd, eOr, eIf, E3.tAnd, E3.tOr, E3.tNot, E3.tB, asB, notD, aNil, aCons, Res.bind_ok, Res.bind_exc, Res.bind_stuck,
  gT, gsCons, gsNil, gN, tupD, lstD, Slot.dat, Slot.shd, List.length_cons, List.length_nil, List.map_cons, List.map_nil, List.replicate, List.append_nil, List.cons_append, List.nil_append, Option.map_some, Option.map_none, Option.bind_some, Option.bind_none,
  List.getElem?_cons_zero, List.getElem?_cons_succ, List.set_cons_zero, List.set_cons_succ, Nat.reduceAdd, Nat.reduceSub, Nat.reduceEqDiff, if_true, if_false, ite_true, ite_false, reduceIte, decide_true, decide_false, reduceCtorEq, Bool.not_true, Bool.not_false, Bool.false_eq_true, Bool.true_eq_false, Bool.or_true, Bool.true_or, Bool.false_or, Bool.or_false, Bool.and_true, Bool.and_false, Bool.true_and, Bool.false_and, addI, subI, ltI, leI, gtI, geI, eqI, neI, E3.negI, ix_cell0, ix_cell1, E3.le0, E3.le1, E3.le2, E3.le3, E3.le4, E3.le5, E3.le6, beq_self_eq_true, Int.reduceBEq, E3.divmodI, E3.modI, E3.fdivI, E3.powL, E3.mulLL, E3.isi_bool_none, E3.isi_bool_bool, E3.isi_bool_int, E3.isi_bool_str, E3.isi_bool_list, E3.isi_bool_tuple, E3.isi_int_none, E3.isi_int_bool, E3.isi_int_int, E3.isi_int_str, E3.isi_int_list, E3.isi_int_tuple, E3.isi_str_none, E3.isi_str_bool, E3.isi_str_int, E3.isi_str_str, E3.isi_str_list, E3.isi_str_tuple, E3.isi_list_none, E3.isi_list_bool, E3.isi_list_int, E3.isi_list_str, E3.isi_list_list, E3.isi_list_tuple, E3.isi_tuple_none, E3.isi_tuple_bool, E3.isi_tuple_int, E3.isi_tuple_str, E3.isi_tuple_list, E3.isi_tuple_tuple, E3.isN_none, E3.ntN_none, E3.isN_bool, E3.ntN_bool, E3.isN_int, E3.ntN_int, E3.isN_str, E3.ntN_str, E3.isN_list, E3.ntN_list, E3.isN_tuple, E3.ntN_tuple, E3.len_list, E3.len_tup, E3.seq_list, E3.seq_tup, E3.tup_list, E3.tup_tup, E3.lst_list, E3.lst_tup, xM, xV, xB, xTB, x2, xAnd, xNil, xCons, xTup, xLst, xCall, xSl, xPotd, ownXd, potKd, ePotE, dropKV, fnPd, startPd, endPd, slL, eSlL, xPot, ownX, potK, XR.bind_ok, XR.bind_exc, XR.bind_stuck, XR.of_ok, XR.of_exc, XR.of_stuck, thenX_ok, thenX_exc, thenX_stuck, qSet, qRet, qIf, qAsg, qForR, qFor, H70.fR_i, H70.fR_b, H70.fR_ii, H70.fR_c, fnP, startP, endP, fnL, startL, endL, xPotL, xLast, fnN, endN, E3.ix_lst0, Int.cast_ofNat_Int, *])
abbrev Pt := Int × Int
abbrev Se := List Pt
def Rs (a : Se) : Prop := a.Pairwise E3.ltP
def Sub (a b : Se) : Prop := ∀ x ∈ a, x ∈ b
theorem rs_nd {a : Se} (h : Rs a) : a.Nodup := h.imp fun {x y} l e => by
  subst e
  unfold E3.ltP at l
  omega
theorem rs_ext {a b : Se} (ha : Rs a) (hb : Rs b) (h : ∀ x, x ∈ a ↔ x ∈ b) : a = b := E3.rise_uniq ha hb h
theorem nd_le {α : Type} [DecidableEq α] : ∀ {a b : List α}, a.Nodup → (∀ x ∈ a, x ∈ b) → a.length ≤ b.length
  | [], _, _, _ => Nat.zero_le _
  | x :: a, b, nd, s => by
    obtain ⟨n1, n2⟩ := List.nodup_cons.mp nd
    have xb := s x List.mem_cons_self
    have ih := nd_le (b := b.erase x) n2 fun y hy => (List.mem_erase_of_ne (a := y) (b := x) fun e => n1 (by rw [← e]; exact hy)).mpr (s y (List.mem_cons_of_mem _ hy))
    rw [List.length_erase_of_mem xb] at ih
    have : 0 < b.length := List.length_pos_of_mem xb
    rw [List.length_cons]
    omega
theorem sub_len {a b : Se} (nd : a.Nodup) (s : Sub a b) : a.length ≤ b.length := nd_le nd s
theorem sub_eq {a b : Se} (ha : Rs a) (hb : Rs b) (s : Sub a b) (l : b.length ≤ a.length) : a = b := by
  refine rs_ext ha hb fun x => ⟨s x, fun hx => Classical.byContradiction fun n => ?_⟩
  have nd : (x :: a).Nodup := List.nodup_cons.mpr ⟨n, rs_nd ha⟩
  have := sub_len nd (b := b) fun y hy => by
    rcases List.mem_cons.mp hy with rfl | h
    · exact hx
    · exact s y h
  rw [List.length_cons] at this
  omega
theorem Sub.trans {a b c : Se} (h : Sub a b) (k : Sub b c) : Sub a c := fun x hx => k x (h x hx)
theorem Sub.refl (a : Se) : Sub a a := fun _ h => h
def lessIn (one : Se) (sets : List Se) : Bool := sets.any fun o => decide (o.length < one.length) && o.all fun s => decide (s ∈ one)
theorem less_iff {one : Se} {sets : List Se} : lessIn one sets = true ↔ ∃ o ∈ sets, o.length < one.length ∧ Sub o one := by
  unfold lessIn
  rw [List.any_eq_true]
  constructor
  · rintro ⟨o, ho, e⟩
    rw [Bool.and_eq_true, decide_eq_true_iff, List.all_eq_true] at e
    exact ⟨o, ho, e.1, fun x hx => of_decide_eq_true (e.2 x hx)⟩
  · rintro ⟨o, ho, a, b⟩
    refine ⟨o, ho, ?_⟩
    rw [Bool.and_eq_true, decide_eq_true_iff, List.all_eq_true]
    exact ⟨a, fun x hx => decide_eq_true (b x hx)⟩
def addS (acc : List Se) (one : Se) : List Se := if (!decide (one ∈ acc) && !lessIn one acc) = true then acc ++ [one] else acc
def tooS (acc : List Se) : Bool := decide (60 < acc.length) || decide (400 < (acc.getLast?.getD []).length)
def lookF : List Se → List Se → Option (List Se)
  | acc, [] => some acc
  | acc, one :: r => if tooS (addS acc one) = true then none else lookF (addS acc one) r
def isMin (F : List Se) (a : Se) : Prop := a ∈ F ∧ ∀ b ∈ F, Sub b a → ¬ b.length < a.length
theorem min_below {F : List Se} : ∀ (n : Nat) (b : Se), b.length ≤ n → b ∈ F → ∃ m, isMin F m ∧ Sub m b ∧ m.length ≤ b.length
  | n, b, hn, hb => by
    by_cases e : ∃ c ∈ F, Sub c b ∧ c.length < b.length
    · obtain ⟨c, c1, c2, c3⟩ := e
      cases n with
      | zero => omega
      | succ n =>
        obtain ⟨m, m1, m2, m3⟩ := min_below n c (by omega) c1
        exact ⟨m, m1, m2.trans c2, by omega⟩
    · exact ⟨b, ⟨hb, fun c hc s l => e ⟨c, hc, s, l⟩⟩, Sub.refl b, Nat.le_refl _⟩
theorem lookF_inv {F : List Se} : ∀ (rest done acc : List Se), F = done ++ rest → F.Pairwise (fun a b => a.length ≤ b.length) → acc.Nodup → (∀ a, a ∈ acc ↔ a ∈ done ∧ isMin F a) → (∀ a ∈ acc, a.length ≤ 400) → acc.length ≤ 60 →
    (∀ G, lookF acc rest = some G → G.Nodup ∧ (∀ a, a ∈ G ↔ isMin F a) ∧ G.length ≤ 60 ∧ ∀ a ∈ G, a.length ≤ 400) ∧ (lookF acc rest = none → ∃ M : List Se, M.Nodup ∧ (∀ a ∈ M, isMin F a) ∧ (60 < M.length ∨ ∃ a ∈ M, 400 < a.length))
  | [], done, acc, hF, hs, nd, mem, hl, h60 => by
    rw [List.append_nil] at hF
    refine ⟨fun G e => ?_, fun e => by cases e⟩
    cases e
    exact ⟨nd, fun a => by rw [mem a, ← hF]; exact ⟨fun h => h.2, fun h => ⟨h.1, h⟩⟩, h60, hl⟩
  | one :: rest, done, acc, hF, hs, nd, mem, hl, h60 => by
    have oF : one ∈ F := by rw [hF]; exact List.mem_append_right _ List.mem_cons_self
    have later : ∀ b ∈ F, b.length < one.length → b ∈ done := fun b hb l => by
      rw [hF] at hb hs
      rcases List.mem_append.mp hb with h | h
      · exact h
      · exfalso
        have q := (List.pairwise_append.mp hs).2.1
        rcases List.mem_cons.mp h with e | h
        · rw [e] at l; omega
        · have := (List.pairwise_cons.mp q).1 b h
          omega
    have mem' : ∀ a, a ∈ addS acc one ↔ a ∈ done ++ [one] ∧ isMin F a := fun a => by
      unfold addS
      split
      · rename_i c
        rw [Bool.and_eq_true, Bool.not_eq_true', Bool.not_eq_true', decide_eq_false_iff_not] at c
        have om : isMin F one := ⟨oF, fun b hb s l => by
          obtain ⟨m, m1, m2, m3⟩ := min_below b.length b (Nat.le_refl _) hb
          have lm : m.length < one.length := by omega
          have : lessIn one acc = true := less_iff.mpr ⟨m, (mem m).mpr ⟨later m m1.1 lm, m1⟩, lm, m2.trans s⟩
          rw [c.2] at this
          cases this⟩
        rw [List.mem_append, List.mem_singleton, List.mem_append, List.mem_singleton, mem a]
        constructor
        · rintro (⟨h1, h2⟩ | h)
          · exact ⟨.inl h1, h2⟩
          · rw [h]; exact ⟨.inr rfl, om⟩
        · rintro ⟨h1 | h1, h2⟩
          · exact .inl ⟨h1, h2⟩
          · exact .inr h1
      · rename_i c
        rw [List.mem_append, List.mem_singleton, mem a]
        constructor
        · rintro ⟨h1, h2⟩
          exact ⟨.inl h1, h2⟩
        · rintro ⟨h1 | h1, h2⟩
          · exact ⟨h1, h2⟩
          · rw [h1] at h2 ⊢
            by_cases c1 : one ∈ acc
            · exact (mem one).mp c1
            · rw [decide_eq_false c1, Bool.not_false, Bool.true_and, Bool.not_eq_true, Bool.not_eq_false'] at c
              obtain ⟨o, o1, o2, o3⟩ := less_iff.mp c
              exact absurd o2 (h2.2 o ((mem o).mp o1).2.1 o3)
    have nd' : (addS acc one).Nodup := by
      unfold addS
      split
      · rename_i c
        rw [Bool.and_eq_true, Bool.not_eq_true', decide_eq_false_iff_not] at c
        refine List.nodup_append.mpr ⟨nd, List.nodup_cons.mpr ⟨by simp, List.nodup_nil⟩, fun x hx y hy e => ?_⟩
        rw [List.mem_singleton] at hy
        exact c.1 (by rw [← hy, ← e]; exact hx)
      · exact nd
    rw [lookF]
    by_cases t : tooS (addS acc one) = true
    · rw [if_pos t]
      refine ⟨fun G e => (by cases e), fun _ => ⟨addS acc one, nd', fun a ha => ((mem' a).mp ha).2, ?_⟩⟩
      unfold tooS at t
      rw [Bool.or_eq_true, decide_eq_true_iff, decide_eq_true_iff] at t
      refine t.imp id fun t => ?_
      cases z : (addS acc one).getLast? with
      | none => rw [z] at t; exact absurd t (by decide)
      | some l =>
        rw [z] at t
        exact ⟨l, List.mem_of_getLast? z, t⟩
    · rw [if_neg t]
      unfold tooS at t
      rw [Bool.or_eq_true, decide_eq_true_iff, decide_eq_true_iff, not_or] at t
      refine lookF_inv rest (done ++ [one]) (addS acc one) (by rw [List.append_assoc]; exact hF) hs nd' mem' (fun a ha => ?_) (by omega)
      by_cases c : (!decide (one ∈ acc) && !lessIn one acc) = true
      · have e : addS acc one = acc ++ [one] := by unfold addS; rw [if_pos c]
        rw [e] at t ha
        rw [List.getLast?_concat] at t
        rcases List.mem_append.mp ha with h | h
        · exact hl a h
        · rw [List.mem_singleton.mp h]
          have := t.2
          simp only [Option.getD_some] at this
          omega
      · have e : addS acc one = acc := by unfold addS; rw [if_neg c]
        rw [e] at ha
        exact hl a ha
theorem look_some {F M : List Se} (hs : F.Pairwise fun a b => a.length ≤ b.length) (hM : ∀ a, isMin F a → a ∈ M) (h60 : M.length ≤ 60) (h400 : ∀ a ∈ M, a.length ≤ 400) : ∃ G, lookF [] F = some G ∧ G.Nodup ∧ ∀ a, a ∈ G ↔ isMin F a := by
  obtain ⟨k1, k2⟩ := lookF_inv (F := F) F [] [] rfl hs List.nodup_nil (fun a => ⟨fun h => (by cases h), fun h => (by cases h.1)⟩) (fun a h => (by cases h)) (Nat.zero_le _)
  cases z : lookF [] F with
  | some G => exact ⟨G, rfl, (k1 G z).1, (k1 G z).2.1⟩
  | none =>
    exfalso
    obtain ⟨N, n1, n2, n3⟩ := k2 z
    rcases n3 with n3 | ⟨a, a1, a2⟩
    · have := nd_le n1 fun x hx => hM x (n2 x hx)
      omega
    · have := h400 a (hM a (n2 a a1))
      omega
theorem look_none {F M : List Se} (hs : F.Pairwise fun a b => a.length ≤ b.length) (nd : M.Nodup) (hM : ∀ a ∈ M, isMin F a) (h60 : 60 < M.length) : lookF [] F = none := by
  obtain ⟨k1, _⟩ := lookF_inv (F := F) F [] [] rfl hs List.nodup_nil (fun a => ⟨fun h => (by cases h), fun h => (by cases h.1)⟩) (fun a h => (by cases h)) (Nat.zero_le _)
  cases z : lookF [] F with
  | none => rfl
  | some G =>
    obtain ⟨g1, g2, g3, _⟩ := k1 G z
    have : M.length ≤ G.length := nd_le nd fun x hx => (g2 x).mpr (hM x hx)
    omega
structure Gen (P : Se → Prop) (F : List Se) : Prop where
  rs : ∀ a ∈ F, Rs a
  ok : ∀ a ∈ F, P a
  has : ∀ a, Rs a → P a → ∃ b ∈ F, Sub b a
def MinP (P : Se → Prop) (a : Se) : Prop := Rs a ∧ P a ∧ ∀ b, Rs b → P b → Sub b a → b = a
theorem gen_min {P : Se → Prop} {F : List Se} (g : Gen P F) (a : Se) : isMin F a ↔ MinP P a := by
  constructor
  · rintro ⟨h1, h2⟩
    refine ⟨g.rs a h1, g.ok a h1, fun b hb pb s => ?_⟩
    obtain ⟨c, c1, c2⟩ := g.has b hb pb
    have := h2 c c1 (c2.trans s)
    have lc := sub_len (rs_nd (g.rs c c1)) c2
    exact sub_eq hb (g.rs a h1) s (by omega)
  · rintro ⟨h1, h2, h3⟩
    obtain ⟨c, c1, c2⟩ := g.has a h1 h2
    have e := h3 c (g.rs c c1) (g.ok c c1) c2
    rw [e] at c1
    refine ⟨c1, fun b hb s l => ?_⟩
    have := h3 b (g.rs b hb) (g.ok b hb) s
    rw [this] at l
    omega
theorem min_ex {P : Se → Prop} : ∀ (n : Nat) (a : Se), a.length ≤ n → Rs a → P a → ∃ b, MinP P b ∧ Sub b a
  | n, a, hn, ha, pa => by
    by_cases e : ∃ c, Rs c ∧ P c ∧ Sub c a ∧ c ≠ a
    · obtain ⟨c, c1, c2, c3, c4⟩ := e
      have l : c.length < a.length := by
        have := sub_len (rs_nd c1) c3
        rcases Nat.lt_or_ge c.length a.length with k | k
        · exact k
        · exact absurd (sub_eq c1 ha c3 k) c4
      cases n with
      | zero => omega
      | succ n =>
        obtain ⟨m, m1, m2⟩ := min_ex n c (by omega) c1 c2
        exact ⟨m, m1, m2.trans c3⟩
    · exact ⟨a, ⟨ha, pa, fun b hb pb s => Classical.byContradiction fun z => e ⟨b, hb, pb, s, z⟩⟩, Sub.refl a⟩
theorem one_many {G : List Se} (nd : G.Nodup) (h : ∀ a ∈ G, ∀ b ∈ G, a = b) : G.length ≤ 1 := by
  cases G with
  | nil => exact Nat.zero_le _
  | cons a t =>
    cases t with
    | nil => exact Nat.le_refl _
    | cons b r =>
      have := h a List.mem_cons_self b (List.mem_cons_of_mem _ List.mem_cons_self)
      rw [this] at nd
      exact absurd List.mem_cons_self (List.nodup_cons.mp nd).1
theorem split_len {G : List Se} (p : Se → Bool) : (G.filter p).length + (G.filter fun a => !p a).length = G.length := by
  induction G with
  | nil => rfl
  | cons a G ih =>
    by_cases e : p a = true
    · rw [List.filter_cons_of_pos e, List.filter_cons_of_neg (by rw [e]; decide), List.length_cons, List.length_cons]; omega
    · rw [List.filter_cons_of_neg e, List.filter_cons_of_pos (by simpa using e), List.length_cons, List.length_cons]; omega
theorem anti_le : ∀ (w : Se) (G : List Se), w ≠ [] → G.Nodup → (∀ a ∈ G, Rs a ∧ Sub a w) → (∀ a ∈ G, ∀ b ∈ G, Sub a b → a = b) → G.length ≤ 2 ^ (w.length - 1)
  | [], _, h, _, _, _ => absurd rfl h
  | [x], G, _, nd, hs, an => by
    refine one_many nd fun a ha b hb => ?_
    by_cases e : ∃ y, y ∈ a
    · have xa : x ∈ a := by
        obtain ⟨y, hy⟩ := e
        rw [← List.mem_singleton.mp ((hs a ha).2 y hy)]
        exact hy
      exact (an b hb a ha fun y hy => by rw [List.mem_singleton.mp ((hs b hb).2 y hy)]; exact xa).symm
    · exact an a ha b hb fun y hy => absurd ⟨y, hy⟩ e
  | x :: y :: w, G, _, nd, hs, an => by
    have i0 := anti_le (y :: w) (G.filter fun a => !decide (x ∈ a)) (by simp) (nd.filter _) (fun a ha => by
      obtain ⟨h1, h2⟩ := List.mem_filter.mp ha
      refine ⟨(hs a h1).1, fun z hz => ?_⟩
      rcases List.mem_cons.mp ((hs a h1).2 z hz) with e | h
      · rw [e] at hz; simp [hz] at h2
      · exact h) (fun a ha b hb => an a (List.mem_filter.mp ha).1 b (List.mem_filter.mp hb).1)
    have mem : ∀ a, a ∈ (G.filter fun a => decide (x ∈ a)).map (fun a => a.filter fun z => decide (z ≠ x)) → ∃ b ∈ G, x ∈ b ∧ a = b.filter fun z => decide (z ≠ x) := fun a ha => by
      obtain ⟨b, hb, e⟩ := List.mem_map.mp ha
      obtain ⟨h1, h2⟩ := List.mem_filter.mp hb
      exact ⟨b, h1, of_decide_eq_true h2, e.symm⟩
    have up : ∀ a b : Se, x ∈ b → Sub (a.filter fun z => decide (z ≠ x)) (b.filter fun z => decide (z ≠ x)) → Sub a b := fun a b xb s z hz => by
      by_cases e : z = x
      · rw [e]; exact xb
      · exact (List.mem_filter.mp (s z (List.mem_filter.mpr ⟨hz, decide_eq_true e⟩))).1
    have i1 := anti_le (y :: w) ((G.filter fun a => decide (x ∈ a)).map (fun a => a.filter fun z => decide (z ≠ x))) (by simp) (by
      refine List.Pairwise.map _ (fun a b h => h) ?_
      refine List.Pairwise.imp_of_mem ?_ (nd.filter (fun a => decide (x ∈ a)))
      intro a b ha hb ne e
      obtain ⟨a1, a2⟩ := List.mem_filter.mp ha
      obtain ⟨b1, b2⟩ := List.mem_filter.mp hb
      exact ne (an a a1 b b1 (up a b (of_decide_eq_true b2) (by rw [e]; exact Sub.refl _)))) (fun a ha => by
      obtain ⟨b, b1, b2, rfl⟩ := mem a ha
      refine ⟨(hs b b1).1.filter _, fun z hz => ?_⟩
      obtain ⟨z1, z2⟩ := List.mem_filter.mp hz
      exact (List.mem_cons.mp ((hs b b1).2 z z1)).resolve_left (of_decide_eq_true z2)) (fun a ha b hb s => by
      obtain ⟨a', a1, a2, rfl⟩ := mem a ha
      obtain ⟨b', b1, b2, rfl⟩ := mem b hb
      rw [an a' a1 b' b1 (up a' b' b2 s)])
    rw [List.length_map] at i1
    have := split_len (G := G) fun a => decide (x ∈ a)
    simp only [List.length_cons, Nat.add_sub_cancel] at *
    rw [Nat.pow_succ]
    omega
end H48
namespace E3
open PySem PySem.Spec PyProof.Rows L2
def startL (N : Nat) (c : List D) (ds : List D) : SS := ds.map (fun d => some (.sh d)) ++ (some (.ow (.list c)) :: List.replicate (N - (ds.length + 1)) none)
def endL (m : Nat) : SR → Res (D × List D)
  | .ok (.rt d) σ => match σ[m]? with
    | some (some (.ow (.list c))) => .ok (d, c)
    | _ => .stuck
  | _ => .stuck
def fnL (N m : Nat) (g : SF) : PF := fun c ds => if ds.length = m then endL m (g (startL N c ds)) else .stuck
section
variable {P : Program} {w : World} {K : PySem.W.Frag} {mg : Str → Option Value} {base : Heap}
end
def rL (K : PySem.W.Frag) (i : Nat) (τ : L2.St) : Hp → List V → List D → Prop := fun R vs ds => ∃ ws a, vs = ws ++ [.ref a] ∧ τ[i]? = some (some (.ref a)) ∧ RpA K R ws ds
structure XL (X : Cx) (E : WX) (i : Nat) (es : List Expr) (f : SS → XR (List D)) : Prop where
  run : ∃ t : TA, PA X es t ∧ ∀ (R0 H0 : Hp) (σ : SS) (τ : L2.St) (R H : Hp) (Q : List V → Hp → Prop), RO X.K R0 H0 R H σ τ → XPost X E (rL X.K i τ) R0 H0 R τ Q (f σ) → t τ H Q
def xLast (i : Nat) : SS → XR (List D) := fun σ => ownX i σ (.ok [] σ)
def xPotL (i : Nat) (F : PF) (g : SS → XR (List D)) : SS → XR D := fun σ => (g σ).bind fun ds σ => potK i σ fun c => F c ds
section
variable {X : Cx} {E : WX} {e : Expr} {es : List Expr} {f : SS → XR D} {ga : SS → XR (List D)} {pos p1 np : Pos} {k : Nat} {fa : Addr} {fd : FuncData} {ps : List Str} {F : PF} {x y : Str} {i : Nat}
end
section
variable {X : Cx} {E : WX} {ps : List Nat} {rk : RK} {tg iter elt : Expr} {ifs : List Expr} {scope : Scope} {pos : Pos} {own : List (Str × Nat)} {ix : List Nat} {it : DS → Res (List D)} {pt : GF} {c : DS → Res Bool} {f : DS → Res D}
end
end E3
namespace E3
open PySem PySem.Spec PyProof.Rows L2
section
variable {X : Cx} {E : WX} {a b e : Expr} {pos : Pos} {f : SS → XR D} {p q : SS → XR Bool} {rest : List Expr}
def xOr (p q : SS → XR Bool) : SS → XR Bool := fun σ => (p σ).bind fun b σ => if b then .ok true σ else q σ
def xNot (p : SS → XR Bool) : SS → XR Bool := fun σ => (p σ).bind fun b σ => .ok (!b) σ
end
end E3
namespace E3
open PySem PySem.Spec PyProof.Rows L2
section
variable {X : Cx} {E : WX} {ps : List Nat} {rk : RK} {c : Expr} {body : List Stmt} {p : DS → Res Bool} {gb : SF} {pos : Pos} {R0 H0 R H : Hp} {τ0 τ : L2.St} {σ : SS} {Dn : Ends}
end
section
variable {X : Cx} {E : WX} {ps : List Nat} {rk : RK} {e : Expr} {f : DS → Res D} {pos p2 : Pos}
def slL : D → Option Int → Option Int → Res D
  | .list ds, lo, hi => .ok (.list (E3.cutD ds lo hi))
  | _, _, _ => .stuck
def eSlL (f : DS → Res D) (lo hi : DS → Res (Option Int)) : DS → Res D := fun σ => (f σ).bind fun x => (lo σ).bind fun l => (hi σ).bind fun u => slL x l u
end
section
variable {X : Cx} {E : WX} {ps : List Nat} {rk : RK} {e : Expr} {x : Str} {np apos pos pos' : Pos} {ga : SS → XR (List D)}
end
abbrev KVs := List (D × D)
abbrev PFd := KVs → List D → Res (D × KVs)
def potKd (i : Nat) (σ : SS) (F : KVs → Res (D × KVs)) : XR D := match σ[i]? with
  | some (some (.ow (.dict c))) => match F c with
    | .ok (d, c') => .ok d (σ.set i (some (.ow (.dict c'))))
    | _ => .stuck
  | _ => .stuck
def ownXd {α : Type} (i : Nat) (σ : SS) (k : XR α) : XR α := match σ[i]? with
  | some (some (.ow (.dict _))) => k
  | _ => .stuck
def xPotd (i : Nat) (F : PFd) (g : SS → XR (List D)) : SS → XR D := fun σ => ownXd i σ ((g σ).bind fun ds σ => potKd i σ fun c => F c ds)
def dropKV : Res (D × KVs) → Res D
  | .ok (d, _) => .ok d
  | _ => .stuck
def ePotE (F : PFd) (f : DS → Res D) (g : DS → Res (List D)) : DS → Res D := fun σ => (f σ).bind fun d => match d with
  | .dict c => (g σ).bind fun ds => dropKV (F c ds)
  | _ => .stuck
def startPd (N : Nat) (c : KVs) (ds : List D) : SS := some (.ow (.dict c)) :: (ds.map (fun d => some (.sh d)) ++ List.replicate (N - (ds.length + 1)) none)
def endPd : SR → Res (D × KVs)
  | .ok (.rt d) σ => match σ[(0 : Nat)]? with
    | some (some (.ow (.dict c))) => .ok (d, c)
    | _ => .stuck
  | _ => .stuck
def fnPd (N n : Nat) (g : SF) : PFd := fun c ds => if ds.length + 1 = n then endPd (g (startPd N c ds)) else .stuck
section
variable {P : Program} {w : World} {K : PySem.W.Frag} {mg : Str → Option Value} {base : Heap}
end
section
variable {X : Cx} {E : WX} {e : Expr} {es : List Expr} {ga : SS → XR (List D)} {pos p1 np : Pos} {k : Nat} {fa : Addr} {fd : FuncData} {ps : List Str} {F : PFd} {x y : Str}
end
end E3
namespace H70
open PySem PySem.Spec PyProof.Rows L2 E3
abbrev Pt := Int × Int
theorem fR_i (i : Int) : flatR (.ok (.int i)) = .ok (.int i) := rfl
theorem fR_b (i : Bool) : flatR (.ok (.bool i)) = .ok (.bool i) := rfl
theorem fR_ii (i j : Int) : flatR (.ok (.tuple [.int i, .int j])) = .ok (.tuple [.int i, .int j]) := rfl
theorem fR_c (p : Pt) : flatR (.ok (cellD p)) = .ok (cellD p) := rfl
def takeN (c : Pt) (s : List Pt × List Pt) (st : Pt) : List Pt × List Pt := if plusC c st ∈ s.1 then (s.1.filter (fun x => decide (x ≠ plusC c st)), s.2 ++ [plusC c st]) else s
def stepAll (c : Pt) (steps : List Pt) (s : List Pt × List Pt) : List Pt × List Pt := steps.foldl (takeN c) s
def flo (steps : List Pt) : Nat → List Pt × List Pt → Nat → List Pt × List Pt
  | 0, s, _ => s
  | n + 1, s, k => match s.2[k]? with
    | none => s
    | some c => flo steps n (stepAll c steps s) (k + 1)
def flood (steps L : List Pt) (c : Pt) : List Pt × List Pt := flo steps (L.length + 1) (L.filter (fun x => decide (x ≠ c)), [c]) 0
inductive Rch (steps L : List Pt) (c : Pt) : Pt → Prop
  | here : c ∈ L → Rch steps L c c
  | on {x st : Pt} : Rch steps L c x → st ∈ steps → plusC x st ∈ L → Rch steps L c (plusC x st)
theorem Rch.mem {steps L : List Pt} {c x : Pt} (h : Rch steps L c x) : x ∈ L := by
  cases h with
  | here h => exact h
  | on _ _ h => exact h
theorem Rch.start {steps L : List Pt} {c x : Pt} (h : Rch steps L c x) : c ∈ L := by
  induction h with
  | here h => exact h
  | on _ _ _ ih => exact ih
theorem Rch.trans {steps L : List Pt} {a b c : Pt} (h1 : Rch steps L a b) (h2 : Rch steps L b c) : Rch steps L a c := by
  induction h2 with
  | here _ => exact h1
  | on _ hs hl ih => exact .on ih hs hl
def Sym (steps : List Pt) : Prop := ∀ s ∈ steps, (-s.1, -s.2) ∈ steps
theorem plus_back (x s : Pt) : plusC (plusC x s) (-s.1, -s.2) = x := by
  unfold plusC
  refine Prod.ext ?_ ?_
  · show x.1 + s.1 + -s.1 = x.1; omega
  · show x.2 + s.2 + -s.2 = x.2; omega
theorem Rch.symm {steps L : List Pt} (hS : Sym steps) {a b : Pt} (h : Rch steps L a b) : Rch steps L b a := by
  induction h with
  | here h => exact .here h
  | on hx hs hl ih =>
    rename_i x st
    have h1 : Rch steps L (plusC x st) x := by
      have := Rch.on (Rch.here (steps := steps) hl) (hS _ hs) (by rw [plus_back]; exact hx.mem)
      rw [plus_back] at this
      exact this
    exact h1.trans ih
theorem Rch.mono {steps L M : List Pt} (h : ∀ x ∈ L, x ∈ M) {a b : Pt} (r : Rch steps L a b) : Rch steps M a b := by
  induction r with
  | here q => exact .here (h _ q)
  | on _ hs hl ih => exact .on ih hs (h _ hl)
structure FI (L : List Pt) (s : List Pt × List Pt) : Prop where
  n1 : s.1.Nodup
  n2 : s.2.Nodup
  dis : ∀ x ∈ s.1, x ∉ s.2
  all : ∀ x, x ∈ L ↔ x ∈ s.1 ∨ x ∈ s.2
  len : s.1.length + s.2.length = L.length
theorem filter_ne_len : ∀ {l : List Pt} {a : Pt}, l.Nodup → a ∈ l → (l.filter fun x => decide (x ≠ a)).length + 1 = l.length
  | [], _, _, h => by cases h
  | b :: r, a, nd, h => by
    have nd' := List.nodup_cons.mp nd
    by_cases e : b = a
    · subst e
      rw [List.filter_cons_of_neg (by simp)]
      have : r.filter (fun x => decide (x ≠ b)) = r := List.filter_eq_self.mpr fun x hx => decide_eq_true fun z => nd'.1 (z ▸ hx)
      rw [this]; rfl
    · rw [List.filter_cons_of_pos (by simpa using e), List.length_cons, List.length_cons]
      have := filter_ne_len nd'.2 ((List.mem_cons.mp h).resolve_left fun z => e z.symm)
      omega
theorem FI.start {L : List Pt} {c : Pt} (nd : L.Nodup) (hc : c ∈ L) : FI L (L.filter (fun x => decide (x ≠ c)), [c]) := by
  refine ⟨nd.filter _, List.nodup_cons.mpr ⟨by simp, List.nodup_nil⟩, fun x hx => ?_, fun x => ?_, ?_⟩
  · have := (List.mem_filter.mp hx).2
    simpa using this
  · by_cases e : x = c
    · subst e; simp [hc]
    · simp [e]
  · exact filter_ne_len nd hc
theorem FI.take {L : List Pt} {s : List Pt × List Pt} (h : FI L s) (c st : Pt) : FI L (takeN c s st) := by
  unfold takeN
  by_cases e : plusC c st ∈ s.1
  · rw [if_pos e]
    have h2 : plusC c st ∉ s.2 := h.dis _ e
    refine ⟨h.n1.filter _, ?_, fun x hx => ?_, fun x => ?_, ?_⟩
    · exact List.nodup_append.mpr ⟨h.n2, List.nodup_cons.mpr ⟨by simp, List.nodup_nil⟩, fun a ha b hb z => by
        rw [List.mem_singleton.mp hb] at z
        exact h2 (z ▸ ha)⟩
    · obtain ⟨q1, q2⟩ := List.mem_filter.mp hx
      intro z
      rcases List.mem_append.mp z with z | z
      · exact h.dis x q1 z
      · exact (of_decide_eq_true q2) (List.mem_singleton.mp z)
    · rw [h.all]
      by_cases ex : x = plusC c st
      · subst ex; simp [e]
      · simp [ex]
    · have := filter_ne_len h.n1 e
      show (s.1.filter _).length + (s.2 ++ [_]).length = _
      rw [List.length_append, List.length_singleton]
      have := h.len
      omega
  · rw [if_neg e]; exact h
theorem FI.step {L : List Pt} (c : Pt) : ∀ {steps : List Pt} {s : List Pt × List Pt}, FI L s → FI L (stepAll c steps s)
  | [], _, h => h
  | st :: r, s, h => FI.step c (steps := r) (h.take c st)
theorem take_sub {c st : Pt} {s : List Pt × List Pt} : (∀ x ∈ (takeN c s st).1, x ∈ s.1) ∧ ∃ more, (takeN c s st).2 = s.2 ++ more := by
  unfold takeN
  split
  · exact ⟨fun x hx => (List.mem_filter.mp hx).1, _, rfl⟩
  · exact ⟨fun _ h => h, [], by simp⟩
theorem step_sub {c : Pt} : ∀ {steps : List Pt} {s : List Pt × List Pt}, (∀ x ∈ (stepAll c steps s).1, x ∈ s.1) ∧ ∃ more, (stepAll c steps s).2 = s.2 ++ more
  | [], s => ⟨fun _ h => h, [], by simp [stepAll]⟩
  | st :: r, s => by
    obtain ⟨a, m, b⟩ := take_sub (c := c) (st := st) (s := s)
    obtain ⟨a2, m2, b2⟩ := step_sub (c := c) (steps := r) (s := takeN c s st)
    exact ⟨fun x hx => a x (a2 x hx), m ++ m2, by show (stepAll c r (takeN c s st)).2 = _; rw [b2, b, List.append_assoc]⟩
theorem step_clear {c : Pt} : ∀ {steps : List Pt} {s : List Pt × List Pt} {st : Pt}, st ∈ steps → plusC c st ∉ (stepAll c steps s).1
  | a :: r, s, st, h => by
    rcases List.mem_cons.mp h with rfl | h
    · intro z
      have z1 := (step_sub (c := c) (steps := r) (s := takeN c s st)).1 _ z
      unfold takeN at z1
      split at z1
      · have := (List.mem_filter.mp z1).2
        simp at this
      · rename_i e; exact e z1
    · exact step_clear (steps := r) (s := takeN c s a) h
theorem step_reach {L : List Pt} {c0 c : Pt} (all : List Pt) (hc : Rch all L c0 c) : ∀ {steps : List Pt} {s : List Pt × List Pt}, (∀ st ∈ steps, st ∈ all) → (∀ x ∈ s.1, x ∈ L) → (∀ x ∈ s.2, Rch all L c0 x) → ∀ x ∈ (stepAll c steps s).2, Rch all L c0 x
  | [], _, _, _, h => h
  | st :: r, s, ha, hl, h => by
    refine step_reach all hc (steps := r) (s := takeN c s st) (fun x hx => ha x (List.mem_cons_of_mem _ hx)) (fun x hx => hl x (take_sub.1 x hx)) ?_
    unfold takeN
    split
    · rename_i e
      intro x hx
      rcases List.mem_append.mp hx with q | q
      · exact h x q
      · rw [List.mem_singleton.mp q]
        exact .on hc (ha _ List.mem_cons_self) (hl _ e)
    · exact h
theorem flo_ok {steps L : List Pt} {c : Pt} : ∀ (n : Nat) (s : List Pt × List Pt) (k : Nat), FI L s → (∀ x ∈ s.2, Rch steps L c x) → k ≤ s.2.length → L.length + 1 ≤ n + k → (∀ i x, i < k → s.2[i]? = some x → ∀ st ∈ steps, plusC x st ∉ s.1) →
    FI L (flo steps n s k) ∧ (∀ x ∈ (flo steps n s k).2, Rch steps L c x) ∧ (∃ more, (flo steps n s k).2 = s.2 ++ more) ∧ ∀ x ∈ (flo steps n s k).2, ∀ st ∈ steps, plusC x st ∉ (flo steps n s k).1
  | 0, s, k, h, _, hk, hn, _ => by
    have := h.len
    omega
  | n + 1, s, k, h, hr, hk, hn, hd => by
    unfold flo
    cases q : s.2[k]? with
    | none =>
      have hk2 : s.2.length ≤ k := List.getElem?_eq_none_iff.mp q
      refine ⟨h, hr, ⟨[], by simp⟩, fun x hx st hs => ?_⟩
      obtain ⟨i, hi⟩ := List.mem_iff_getElem?.mp hx
      have hi1 : i < s.2.length := (List.getElem?_eq_some_iff.mp hi).1
      exact hd i x (by omega) hi st hs
    | some c1 =>
      have hk2 : k < s.2.length := (List.getElem?_eq_some_iff.mp q).1
      obtain ⟨sb, more, em⟩ := step_sub (c := c1) (steps := steps) (s := s)
      have hc1 : Rch steps L c c1 := hr _ (List.mem_of_getElem? q)
      have h2 : FI L (stepAll c1 steps s) := h.step c1
      have r2 := step_reach steps hc1 (steps := steps) (s := s) (fun _ z => z) (fun x hx => (h.all x).mpr (.inl hx)) hr
      obtain ⟨g1, g2, ⟨m3, g3⟩, g4⟩ := flo_ok n (stepAll c1 steps s) (k + 1) h2 r2 (by rw [em, List.length_append]; omega) (by omega) (fun i x hi hx st hs => by
        rw [em] at hx
        by_cases e : i = k
        · subst e
          rw [List.getElem?_append_left hk2, q] at hx
          cases hx
          exact step_clear hs
        · rw [List.getElem?_append_left (by omega)] at hx
          exact fun z => hd i x (by omega) hx st hs (sb _ z))
      exact ⟨g1, g2, ⟨more ++ m3, by show (flo steps n (stepAll c1 steps s) (k + 1)).2 = _; rw [g3, em, List.append_assoc]⟩, g4⟩
theorem flood_ok {steps L : List Pt} {c : Pt} (nd : L.Nodup) (hc : c ∈ L) : FI L (flood steps L c) ∧ ∀ x, x ∈ (flood steps L c).2 ↔ Rch steps L c x := by
  obtain ⟨h1, h2, ⟨more, h3⟩, h4⟩ := flo_ok (steps := steps) (c := c) (L.length + 1) _ 0 (FI.start nd hc) (fun x hx => by rw [List.mem_singleton.mp hx]; exact .here hc) (Nat.zero_le _) (by omega) (fun i _ hi _ => absurd hi (Nat.not_lt_zero i))
  refine ⟨h1, fun x => ⟨h2 x, fun r => ?_⟩⟩
  induction r with
  | here _ =>
    show c ∈ (flo steps (L.length + 1) _ 0).2
    rw [h3]; exact List.mem_append_left _ (List.mem_singleton.mpr rfl)
  | on _ hs hl ih =>
    rcases (h1.all _).mp hl with z | z
    · exact absurd z (h4 _ ih _ hs)
    · exact z
def regs (steps : List Pt) : List Pt → List Pt → List (List Pt) → List (List Pt)
  | [], _, acc => acc
  | c :: cs, L, acc => if c ∈ L then regs steps cs (flood steps L c).1 (acc ++ [srt (flood steps L c).2]) else regs steps cs L acc
def Cl (steps all L : List Pt) : Prop := ∀ x ∈ L, ∀ y, Rch steps all x y → y ∈ L
theorem Cl.rch {steps all L : List Pt} (h : Cl steps all L) (sub : ∀ x ∈ L, x ∈ all) {c x : Pt} (hc : c ∈ L) : Rch steps L c x ↔ Rch steps all c x := by
  refine ⟨fun r => r.mono sub, fun r => ?_⟩
  induction r with
  | here _ => exact .here hc
  | on hx hs hl ih => exact .on ih hs (h c hc _ (.on hx hs hl))
theorem Cl.next {steps all L : List Pt} (hS : Sym steps) (h : Cl steps all L) (nd : L.Nodup) (sub : ∀ x ∈ L, x ∈ all) {c : Pt} (hc : c ∈ L) : Cl steps all (flood steps L c).1 := by
  obtain ⟨f1, f2⟩ := flood_ok (steps := steps) nd hc
  intro x hx y r
  have hxL : x ∈ L := (f1.all x).mpr (.inl hx)
  have hy := h x hxL y r
  rcases (f1.all y).mp hy with z | z
  · exact z
  · have r1 : Rch steps L c y := (f2 y).mp z
    have r2 : Rch steps L y x := ((h.rch sub hxL).mpr r).symm hS
    exact absurd ((f2 x).mpr (r1.trans r2)) (f1.dis x hx)
end H70
namespace H70
open PySem PySem.Spec PyProof.Rows L2 E3 
local macro_rules | `(tactic| walk_at "ev") => `(tactic| try simp (disch := first | decide | decide +kernel | omega) only [fnD, xOr, xNot, startF, endF, sSeq, sAsg, sSet, sSetV, sAsgV, sIf, sRet, sNew, sNewV, sMut, sMutV, sFor, sForR, sFreeze, sNil, sExpr, optK, thenR_ok, thenR_exc, thenR_stuck,
  view, mask, E3.eVar_zero, E3.eVar_succ, eC, e1, e2, eCall, eTup, eLst, eSl, oNone, oSome, eAnd, eOr, eIf, E3.tAnd, E3.tOr, E3.tNot, E3.tB, asB, notD, aNil, aCons, Res.bind_ok, Res.bind_exc, Res.bind_stuck,
  gT, gsCons, gsNil, gN, tupD, lstD, Slot.dat, Slot.shd, List.length_cons, List.length_nil, List.map_cons, List.map_nil, List.replicate, List.append_nil, List.cons_append, List.nil_append, Option.map_some, Option.map_none, Option.bind_some, Option.bind_none,
  List.getElem?_cons_zero, List.getElem?_cons_succ, List.set_cons_zero, List.set_cons_succ, Nat.reduceAdd, Nat.reduceSub, Nat.reduceEqDiff, if_true, if_false, ite_true, ite_false, reduceIte, decide_true, decide_false, reduceCtorEq, Bool.not_true, Bool.not_false, Bool.false_eq_true, Bool.true_eq_false, Bool.or_true, Bool.true_or, Bool.false_or, Bool.or_false, Bool.and_true, Bool.and_false, Bool.true_and, Bool.false_and, addI, subI, ltI, leI, gtI, geI, eqI, neI, E3.negI, ix_cell0, ix_cell1, E3.le0, E3.le1, E3.le2, E3.le3, E3.le4, E3.le5, E3.le6, beq_self_eq_true, Int.reduceBEq, E3.divmodI, E3.modI, E3.fdivI, E3.powL, E3.mulLL, E3.isi_bool_none, E3.isi_bool_bool, E3.isi_bool_int, E3.isi_bool_str, E3.isi_bool_list, E3.isi_bool_tuple, E3.isi_int_none, E3.isi_int_bool, E3.isi_int_int, E3.isi_int_str, E3.isi_int_list, E3.isi_int_tuple, E3.isi_str_none, E3.isi_str_bool, E3.isi_str_int, E3.isi_str_str, E3.isi_str_list, E3.isi_str_tuple, E3.isi_list_none, E3.isi_list_bool, E3.isi_list_int, E3.isi_list_str, E3.isi_list_list, E3.isi_list_tuple, E3.isi_tuple_none, E3.isi_tuple_bool, E3.isi_tuple_int, E3.isi_tuple_str, E3.isi_tuple_list, E3.isi_tuple_tuple, E3.isN_none, E3.ntN_none, E3.isN_bool, E3.ntN_bool, E3.isN_int, E3.ntN_int, E3.isN_str, E3.ntN_str, E3.isN_list, E3.ntN_list, E3.isN_tuple, E3.ntN_tuple, E3.len_list, E3.len_tup, E3.seq_list, E3.seq_tup, E3.tup_list, E3.tup_tup, E3.lst_list, E3.lst_tup, xM, xV, xB, xTB, x2, xAnd, xNil, xCons, xTup, xLst, xCall, xSl, xPotd, ownXd, potKd, ePotE, dropKV, fnPd, startPd, endPd, slL, eSlL, xPot, ownX, potK, XR.bind_ok, XR.bind_exc, XR.bind_stuck, XR.of_ok, XR.of_exc, XR.of_stuck, thenX_ok, thenX_exc, thenX_stuck, qSet, qRet, qIf, qAsg, qForR, qFor, H70.fR_i, H70.fR_b, H70.fR_ii, H70.fR_c, fnP, startP, endP, fnL, startL, endL, xPotL, xLast, fnN, endN, E3.ix_lst0, Int.cast_ofNat_Int])
local macro_rules | `(tactic| walk_at "evs") => `(tactic| try simp (disch := first | decide | decide +kernel | omega) only [fnD, xOr, xNot, startF, endF, sSeq, sAsg, sSet, sSetV, sAsgV, sIf, sRet, sNew, sNewV, sMut, sMutV, sFor, sForR, sFreeze, sNil, sExpr, optK, thenR_ok, thenR_exc, thenR_stuck,
  view, mask, E3.eVar_zero, E3.eVar_succ, eC, e1, e2, eCall, eTup, eLst, eSl, oNone, oSome, eAnd, eOr, eIf, E3.tAnd, E3.tOr, E3.tNot, E3.tB, asB, notD, aNil, aCons, Res.bind_ok, Res.bind_exc, Res.bind_stuck,
  gT, gsCons, gsNil, gN, tupD, lstD, Slot.dat, Slot.shd, List.length_cons, List.length_nil, List.map_cons, List.map_nil, List.replicate, List.append_nil, List.cons_append, List.nil_append, Option.map_some, Option.map_none, Option.bind_some, Option.bind_none,
  List.getElem?_cons_zero, List.getElem?_cons_succ, List.set_cons_zero, List.set_cons_succ, Nat.reduceAdd, Nat.reduceSub, Nat.reduceEqDiff, if_true, if_false, ite_true, ite_false, reduceIte, decide_true, decide_false, reduceCtorEq, Bool.not_true, Bool.not_false, Bool.false_eq_true, Bool.true_eq_false, Bool.or_true, Bool.true_or, Bool.false_or, Bool.or_false, Bool.and_true, Bool.and_false, Bool.true_and, Bool.false_and, addI, subI, ltI, leI, gtI, geI, eqI, neI, E3.negI, ix_cell0, ix_cell1, E3.le0, E3.le1, E3.le2, E3.le3, E3.le4, E3.le5, E3.le6, beq_self_eq_true, Int.reduceBEq, E3.divmodI, E3.modI, E3.fdivI, E3.powL, E3.mulLL, E3.isi_bool_none, E3.isi_bool_bool, E3.isi_bool_int, E3.isi_bool_str, E3.isi_bool_list, E3.isi_bool_tuple, E3.isi_int_none, E3.isi_int_bool, E3.isi_int_int, E3.isi_int_str, E3.isi_int_list, E3.isi_int_tuple, E3.isi_str_none, E3.isi_str_bool, E3.isi_str_int, E3.isi_str_str, E3.isi_str_list, E3.isi_str_tuple, E3.isi_list_none, E3.isi_list_bool, E3.isi_list_int, E3.isi_list_str, E3.isi_list_list, E3.isi_list_tuple, E3.isi_tuple_none, E3.isi_tuple_bool, E3.isi_tuple_int, E3.isi_tuple_str, E3.isi_tuple_list, E3.isi_tuple_tuple, E3.isN_none, E3.ntN_none, E3.isN_bool, E3.ntN_bool, E3.isN_int, E3.ntN_int, E3.isN_str, E3.ntN_str, E3.isN_list, E3.ntN_list, E3.isN_tuple, E3.ntN_tuple, E3.len_list, E3.len_tup, E3.seq_list, E3.seq_tup, E3.tup_list, E3.tup_tup, E3.lst_list, E3.lst_tup, xM, xV, xB, xTB, x2, xAnd, xNil, xCons, xTup, xLst, xCall, xSl, xPotd, ownXd, potKd, ePotE, dropKV, fnPd, startPd, endPd, slL, eSlL, xPot, ownX, potK, XR.bind_ok, XR.bind_exc, XR.bind_stuck, XR.of_ok, XR.of_exc, XR.of_stuck, thenX_ok, thenX_exc, thenX_stuck, qSet, qRet, qIf, qAsg, qForR, qFor, H70.fR_i, H70.fR_b, H70.fR_ii, H70.fR_c, fnP, startP, endP, fnL, startL, endL, xPotL, xLast, fnN, endN, E3.ix_lst0, Int.cast_ofNat_Int, *])
noncomputable section
theorem drop_dct (ps : List Pt) (p : Pt) : dropD (dctT ps) (kOf p) = dctT (ps.filter fun x => decide (x ≠ p)) := by
  unfold dropD dctT
  rw [List.filter_map]
  congr 1
  refine List.filter_congr fun x _ => ?_
  show decide (E3.keyOf (cellD x) ≠ some (kOf p)) = _
  rw [key_cell]
  exact decide_eq_decide.mpr ⟨fun h e => h (by rw [e]), fun h e => h (kOf_eq.mp (Option.some.inj e))⟩
theorem pop_dct {i : Nat} {σ : SS} {ps : List Pt} {p : Pt} {g : D → SS → SR} (h : p ∈ ps) : popK i σ (dctT ps) (cellD p) g = g (.bool true) (σ.set i (some (.ow (.dict (dctT (ps.filter fun x => decide (x ≠ p))))))) := by
  unfold popK
  rw [key_cell]
  have hv : valK (dctT ps) (kOf p) = some (.bool true) := by
    have hs : (valK (dctT ps) (kOf p)).isSome = true := by
      rw [val_has]
      exact (dct_any ps p).trans (decide_eq_true h)
    unfold valK at hs ⊢
    cases z : (dctT ps).find? fun q => decide (E3.keyOf q.1 = some (kOf p)) with
    | none => rw [z] at hs; cases hs
    | some e =>
      have := List.mem_of_find?_eq_some z
      obtain ⟨q, _, rfl⟩ := List.mem_map.mp this
      rfl
  show (match valK (dctT ps) (kOf p) with
    | some d => g d (σ.set i (some (.ow (.dict (dropD (dctT ps) (kOf p))))))
    | none => .stuck) = _
  rw [hv, drop_dct]
theorem ix_lst {l : List Pt} {k : Nat} {c : Pt} (h : l[k]? = some c) : ixD (.list (l.map cellD)) (.int (k : Nat)) = .ok (cellD c) := (ix_at (by rw [List.getElem?_map, h]; rfl)).2
theorem app_cells {l : List Pt} {p : Pt} (h : l.length < 1000000) : appendM (l.map cellD) [cellD p] = some (.none, (l ++ [p]).map cellD) := by
  show (if (l.map cellD).length < sizeLine then some (PyData.none, l.map cellD ++ [cellD p]) else none) = _
  rw [if_pos (by rw [List.length_map, sizeLine_eq]; omega), List.map_append]
  rfl
theorem app_any {l : List D} {p : D} (h : l.length < 1000000) : appendM l [p] = some (.none, l ++ [p]) := by
  show (if l.length < sizeLine then some (PyData.none, l ++ [p]) else none) = _
  rw [if_pos (by rw [sizeLine_eq]; omega)]
theorem forS_cons {p : GF} {body : SF} {d : D} {ds : List D} {σ σ1 σ2 : SS} (h1 : p d σ = some σ1) (h2 : body σ1 = .ok .nx σ2) : forS p body (d :: ds) σ = forS p body ds σ2 := by
  rw [forS]
  simp only [h1, h2]
theorem forS_rt {p : GF} {body : SF} {d v : D} {ds : List D} {σ σ1 σ2 : SS} (h1 : p d σ = some σ1) (h2 : body σ1 = .ok (.rt v) σ2) : forS p body (d :: ds) σ = .ok (.rt v) σ2 := by
  rw [forS]
  simp only [h1, h2]
abbrev s7 (s : List Pt × List Pt) (a1 a2 : Option Slot) (k : Int) (x5 x6 : Option Slot) : SS := [some (.ow (.dict (dctT s.1))), a1, a2, some (.ow (.list (s.2.map cellD))), some (.sh (.int k)), x5, x6]
end
end H70
namespace H70
open PySem PySem.Spec PyProof.Rows L2 E3 
local macro_rules | `(tactic| walk_at "ev") => `(tactic| try simp (disch := first | decide | decide +kernel | omega) only [fnD, xOr, xNot, startF, endF, sSeq, sAsg, sSet, sSetV, sAsgV, sIf, sRet, sNew, sNewV, sMut, sMutV, sFor, sForR, sFreeze, sNil, sExpr, optK, thenR_ok, thenR_exc, thenR_stuck,
  view, mask, E3.eVar_zero, E3.eVar_succ, eC, e1, e2, eCall, eTup, eLst, eSl, oNone, oSome, eAnd, eOr, eIf, E3.tAnd, E3.tOr, E3.tNot, E3.tB, asB, notD, aNil, aCons, Res.bind_ok, Res.bind_exc, Res.bind_stuck,
  gT, gsCons, gsNil, gN, tupD, lstD, Slot.dat, Slot.shd, List.length_cons, List.length_nil, List.map_cons, List.map_nil, List.replicate, List.append_nil, List.cons_append, List.nil_append, Option.map_some, Option.map_none, Option.bind_some, Option.bind_none,
  List.getElem?_cons_zero, List.getElem?_cons_succ, List.set_cons_zero, List.set_cons_succ, Nat.reduceAdd, Nat.reduceSub, Nat.reduceEqDiff, if_true, if_false, ite_true, ite_false, reduceIte, decide_true, decide_false, reduceCtorEq, Bool.not_true, Bool.not_false, Bool.false_eq_true, Bool.true_eq_false, Bool.or_true, Bool.true_or, Bool.false_or, Bool.or_false, Bool.and_true, Bool.and_false, Bool.true_and, Bool.false_and, addI, subI, ltI, leI, gtI, geI, eqI, neI, E3.negI, ix_cell0, ix_cell1, E3.le0, E3.le1, E3.le2, E3.le3, E3.le4, E3.le5, E3.le6, beq_self_eq_true, Int.reduceBEq, E3.divmodI, E3.modI, E3.fdivI, E3.powL, E3.mulLL, E3.isi_bool_none, E3.isi_bool_bool, E3.isi_bool_int, E3.isi_bool_str, E3.isi_bool_list, E3.isi_bool_tuple, E3.isi_int_none, E3.isi_int_bool, E3.isi_int_int, E3.isi_int_str, E3.isi_int_list, E3.isi_int_tuple, E3.isi_str_none, E3.isi_str_bool, E3.isi_str_int, E3.isi_str_str, E3.isi_str_list, E3.isi_str_tuple, E3.isi_list_none, E3.isi_list_bool, E3.isi_list_int, E3.isi_list_str, E3.isi_list_list, E3.isi_list_tuple, E3.isi_tuple_none, E3.isi_tuple_bool, E3.isi_tuple_int, E3.isi_tuple_str, E3.isi_tuple_list, E3.isi_tuple_tuple, E3.isN_none, E3.ntN_none, E3.isN_bool, E3.ntN_bool, E3.isN_int, E3.ntN_int, E3.isN_str, E3.ntN_str, E3.isN_list, E3.ntN_list, E3.isN_tuple, E3.ntN_tuple, E3.len_list, E3.len_tup, E3.seq_list, E3.seq_tup, E3.tup_list, E3.tup_tup, E3.lst_list, E3.lst_tup, xM, xV, xB, xTB, x2, xAnd, xNil, xCons, xTup, xLst, xCall, xSl, xPotd, ownXd, potKd, ePotE, dropKV, fnPd, startPd, endPd, slL, eSlL, xPot, ownX, potK, XR.bind_ok, XR.bind_exc, XR.bind_stuck, XR.of_ok, XR.of_exc, XR.of_stuck, thenX_ok, thenX_exc, thenX_stuck, qSet, qRet, qIf, qAsg, qForR, qFor, H70.fR_i, H70.fR_b, H70.fR_ii, H70.fR_c, fnP, startP, endP, fnL, startL, endL, xPotL, xLast, fnN, endN, E3.ix_lst0, Int.cast_ofNat_Int])
local macro_rules | `(tactic| walk_at "evs") => `(tactic| try simp (disch := first | decide | decide +kernel | omega) only [fnD, xOr, xNot, startF, endF, sSeq, sAsg, sSet, sSetV, sAsgV, sIf, sRet, sNew, sNewV, sMut, sMutV, sFor, sForR, sFreeze, sNil, sExpr, optK, thenR_ok, thenR_exc, thenR_stuck,
  view, mask, E3.eVar_zero, E3.eVar_succ, eC, e1, e2, eCall, eTup, eLst, eSl, oNone, oSome, eAnd, eOr, eIf, E3.tAnd, E3.tOr, E3.tNot, E3.tB, asB, notD, aNil, aCons, Res.bind_ok, Res.bind_exc, Res.bind_stuck,
  gT, gsCons, gsNil, gN, tupD, lstD, Slot.dat, Slot.shd, List.length_cons, List.length_nil, List.map_cons, List.map_nil, List.replicate, List.append_nil, List.cons_append, List.nil_append, Option.map_some, Option.map_none, Option.bind_some, Option.bind_none,
  List.getElem?_cons_zero, List.getElem?_cons_succ, List.set_cons_zero, List.set_cons_succ, Nat.reduceAdd, Nat.reduceSub, Nat.reduceEqDiff, if_true, if_false, ite_true, ite_false, reduceIte, decide_true, decide_false, reduceCtorEq, Bool.not_true, Bool.not_false, Bool.false_eq_true, Bool.true_eq_false, Bool.or_true, Bool.true_or, Bool.false_or, Bool.or_false, Bool.and_true, Bool.and_false, Bool.true_and, Bool.false_and, addI, subI, ltI, leI, gtI, geI, eqI, neI, E3.negI, ix_cell0, ix_cell1, E3.le0, E3.le1, E3.le2, E3.le3, E3.le4, E3.le5, E3.le6, beq_self_eq_true, Int.reduceBEq, E3.divmodI, E3.modI, E3.fdivI, E3.powL, E3.mulLL, E3.isi_bool_none, E3.isi_bool_bool, E3.isi_bool_int, E3.isi_bool_str, E3.isi_bool_list, E3.isi_bool_tuple, E3.isi_int_none, E3.isi_int_bool, E3.isi_int_int, E3.isi_int_str, E3.isi_int_list, E3.isi_int_tuple, E3.isi_str_none, E3.isi_str_bool, E3.isi_str_int, E3.isi_str_str, E3.isi_str_list, E3.isi_str_tuple, E3.isi_list_none, E3.isi_list_bool, E3.isi_list_int, E3.isi_list_str, E3.isi_list_list, E3.isi_list_tuple, E3.isi_tuple_none, E3.isi_tuple_bool, E3.isi_tuple_int, E3.isi_tuple_str, E3.isi_tuple_list, E3.isi_tuple_tuple, E3.isN_none, E3.ntN_none, E3.isN_bool, E3.ntN_bool, E3.isN_int, E3.ntN_int, E3.isN_str, E3.ntN_str, E3.isN_list, E3.ntN_list, E3.isN_tuple, E3.ntN_tuple, E3.len_list, E3.len_tup, E3.seq_list, E3.seq_tup, E3.tup_list, E3.tup_tup, E3.lst_list, E3.lst_tup, xM, xV, xB, xTB, x2, xAnd, xNil, xCons, xTup, xLst, xCall, xSl, xPotd, ownXd, potKd, ePotE, dropKV, fnPd, startPd, endPd, slL, eSlL, xPot, ownX, potK, XR.bind_ok, XR.bind_exc, XR.bind_stuck, XR.of_ok, XR.of_exc, XR.of_stuck, thenX_ok, thenX_exc, thenX_stuck, qSet, qRet, qIf, qAsg, qForR, qFor, H70.fR_i, H70.fR_b, H70.fR_ii, H70.fR_c, fnP, startP, endP, fnL, startL, endL, xPotL, xLast, fnN, endN, E3.ix_lst0, Int.cast_ofNat_Int, *])
noncomputable section
def aroundL : List Pt := [(-1, -1), (-1, 0), (-1, 1), (0, -1), (0, 1), (1, -1), (1, 0), (1, 1)]
def sidesL : List Pt := [(-1, 0), (0, -1), (0, 1), (1, 0)]
theorem flat2 (i j : Int) : flat (.tuple [.int i, .int j]) = true := rfl
end
end H70
namespace H70
open PySem PySem.Spec PyProof.Rows L2 E3 
local macro_rules | `(tactic| walk_at "ev") => `(tactic| try simp (disch := first | decide | decide +kernel | omega) only [fnD, xOr, xNot, startF, endF, sSeq, sAsg, sSet, sSetV, sAsgV, sIf, sRet, sNew, sNewV, sMut, sMutV, sFor, sForR, sFreeze, sNil, sExpr, optK, thenR_ok, thenR_exc, thenR_stuck,
  view, mask, E3.eVar_zero, E3.eVar_succ, eC, e1, e2, eCall, eTup, eLst, eSl, oNone, oSome, eAnd, eOr, eIf, E3.tAnd, E3.tOr, E3.tNot, E3.tB, asB, notD, aNil, aCons, Res.bind_ok, Res.bind_exc, Res.bind_stuck,
  gT, gsCons, gsNil, gN, tupD, lstD, Slot.dat, Slot.shd, List.length_cons, List.length_nil, List.map_cons, List.map_nil, List.replicate, List.append_nil, List.cons_append, List.nil_append, Option.map_some, Option.map_none, Option.bind_some, Option.bind_none,
  List.getElem?_cons_zero, List.getElem?_cons_succ, List.set_cons_zero, List.set_cons_succ, Nat.reduceAdd, Nat.reduceSub, Nat.reduceEqDiff, if_true, if_false, ite_true, ite_false, reduceIte, decide_true, decide_false, reduceCtorEq, Bool.not_true, Bool.not_false, Bool.false_eq_true, Bool.true_eq_false, Bool.or_true, Bool.true_or, Bool.false_or, Bool.or_false, Bool.and_true, Bool.and_false, Bool.true_and, Bool.false_and, addI, subI, ltI, leI, gtI, geI, eqI, neI, E3.negI, ix_cell0, ix_cell1, E3.le0, E3.le1, E3.le2, E3.le3, E3.le4, E3.le5, E3.le6, beq_self_eq_true, Int.reduceBEq, E3.divmodI, E3.modI, E3.fdivI, E3.powL, E3.mulLL, E3.isi_bool_none, E3.isi_bool_bool, E3.isi_bool_int, E3.isi_bool_str, E3.isi_bool_list, E3.isi_bool_tuple, E3.isi_int_none, E3.isi_int_bool, E3.isi_int_int, E3.isi_int_str, E3.isi_int_list, E3.isi_int_tuple, E3.isi_str_none, E3.isi_str_bool, E3.isi_str_int, E3.isi_str_str, E3.isi_str_list, E3.isi_str_tuple, E3.isi_list_none, E3.isi_list_bool, E3.isi_list_int, E3.isi_list_str, E3.isi_list_list, E3.isi_list_tuple, E3.isi_tuple_none, E3.isi_tuple_bool, E3.isi_tuple_int, E3.isi_tuple_str, E3.isi_tuple_list, E3.isi_tuple_tuple, E3.isN_none, E3.ntN_none, E3.isN_bool, E3.ntN_bool, E3.isN_int, E3.ntN_int, E3.isN_str, E3.ntN_str, E3.isN_list, E3.ntN_list, E3.isN_tuple, E3.ntN_tuple, E3.len_list, E3.len_tup, E3.seq_list, E3.seq_tup, E3.tup_list, E3.tup_tup, E3.lst_list, E3.lst_tup, xM, xV, xB, xTB, x2, xAnd, xNil, xCons, xTup, xLst, xCall, xSl, xPotd, ownXd, potKd, ePotE, dropKV, fnPd, startPd, endPd, slL, eSlL, xPot, ownX, potK, XR.bind_ok, XR.bind_exc, XR.bind_stuck, XR.of_ok, XR.of_exc, XR.of_stuck, thenX_ok, thenX_exc, thenX_stuck, qSet, qRet, qIf, qAsg, qForR, qFor, H70.fR_i, H70.fR_b, H70.fR_ii, H70.fR_c, fnP, startP, endP, fnL, startL, endL, xPotL, xLast, fnN, endN, E3.ix_lst0, Int.cast_ofNat_Int])
local macro_rules | `(tactic| walk_at "evs") => `(tactic| try simp (disch := first | decide | decide +kernel | omega) only [fnD, xOr, xNot, startF, endF, sSeq, sAsg, sSet, sSetV, sAsgV, sIf, sRet, sNew, sNewV, sMut, sMutV, sFor, sForR, sFreeze, sNil, sExpr, optK, thenR_ok, thenR_exc, thenR_stuck,
  view, mask, E3.eVar_zero, E3.eVar_succ, eC, e1, e2, eCall, eTup, eLst, eSl, oNone, oSome, eAnd, eOr, eIf, E3.tAnd, E3.tOr, E3.tNot, E3.tB, asB, notD, aNil, aCons, Res.bind_ok, Res.bind_exc, Res.bind_stuck,
  gT, gsCons, gsNil, gN, tupD, lstD, Slot.dat, Slot.shd, List.length_cons, List.length_nil, List.map_cons, List.map_nil, List.replicate, List.append_nil, List.cons_append, List.nil_append, Option.map_some, Option.map_none, Option.bind_some, Option.bind_none,
  List.getElem?_cons_zero, List.getElem?_cons_succ, List.set_cons_zero, List.set_cons_succ, Nat.reduceAdd, Nat.reduceSub, Nat.reduceEqDiff, if_true, if_false, ite_true, ite_false, reduceIte, decide_true, decide_false, reduceCtorEq, Bool.not_true, Bool.not_false, Bool.false_eq_true, Bool.true_eq_false, Bool.or_true, Bool.true_or, Bool.false_or, Bool.or_false, Bool.and_true, Bool.and_false, Bool.true_and, Bool.false_and, addI, subI, ltI, leI, gtI, geI, eqI, neI, E3.negI, ix_cell0, ix_cell1, E3.le0, E3.le1, E3.le2, E3.le3, E3.le4, E3.le5, E3.le6, beq_self_eq_true, Int.reduceBEq, E3.divmodI, E3.modI, E3.fdivI, E3.powL, E3.mulLL, E3.isi_bool_none, E3.isi_bool_bool, E3.isi_bool_int, E3.isi_bool_str, E3.isi_bool_list, E3.isi_bool_tuple, E3.isi_int_none, E3.isi_int_bool, E3.isi_int_int, E3.isi_int_str, E3.isi_int_list, E3.isi_int_tuple, E3.isi_str_none, E3.isi_str_bool, E3.isi_str_int, E3.isi_str_str, E3.isi_str_list, E3.isi_str_tuple, E3.isi_list_none, E3.isi_list_bool, E3.isi_list_int, E3.isi_list_str, E3.isi_list_list, E3.isi_list_tuple, E3.isi_tuple_none, E3.isi_tuple_bool, E3.isi_tuple_int, E3.isi_tuple_str, E3.isi_tuple_list, E3.isi_tuple_tuple, E3.isN_none, E3.ntN_none, E3.isN_bool, E3.ntN_bool, E3.isN_int, E3.ntN_int, E3.isN_str, E3.ntN_str, E3.isN_list, E3.ntN_list, E3.isN_tuple, E3.ntN_tuple, E3.len_list, E3.len_tup, E3.seq_list, E3.seq_tup, E3.tup_list, E3.tup_tup, E3.lst_list, E3.lst_tup, xM, xV, xB, xTB, x2, xAnd, xNil, xCons, xTup, xLst, xCall, xSl, xPotd, ownXd, potKd, ePotE, dropKV, fnPd, startPd, endPd, slL, eSlL, xPot, ownX, potK, XR.bind_ok, XR.bind_exc, XR.bind_stuck, XR.of_ok, XR.of_exc, XR.of_stuck, thenX_ok, thenX_exc, thenX_stuck, qSet, qRet, qIf, qAsg, qForR, qFor, H70.fR_i, H70.fR_b, H70.fR_ii, H70.fR_c, fnP, startP, endP, fnL, startL, endL, xPotL, xLast, fnN, endN, E3.ix_lst0, Int.cast_ofNat_Int, *])
noncomputable section
end
end H70
namespace H70
open PySem PySem.Spec PyProof.Rows L2 E3 
local macro_rules | `(tactic| walk_at "ev") => `(tactic| try simp (disch := first | decide | decide +kernel | omega) only [fnD, xOr, xNot, startF, endF, sSeq, sAsg, sSet, sSetV, sAsgV, sIf, sRet, sNew, sNewV, sMut, sMutV, sFor, sForR, sFreeze, sNil, sExpr, optK, thenR_ok, thenR_exc, thenR_stuck,
  view, mask, E3.eVar_zero, E3.eVar_succ, eC, e1, e2, eCall, eTup, eLst, eSl, oNone, oSome, eAnd, eOr, eIf, E3.tAnd, E3.tOr, E3.tNot, E3.tB, asB, notD, aNil, aCons, Res.bind_ok, Res.bind_exc, Res.bind_stuck,
  gT, gsCons, gsNil, gN, tupD, lstD, Slot.dat, Slot.shd, List.length_cons, List.length_nil, List.map_cons, List.map_nil, List.replicate, List.append_nil, List.cons_append, List.nil_append, Option.map_some, Option.map_none, Option.bind_some, Option.bind_none,
  List.getElem?_cons_zero, List.getElem?_cons_succ, List.set_cons_zero, List.set_cons_succ, Nat.reduceAdd, Nat.reduceSub, Nat.reduceEqDiff, if_true, if_false, ite_true, ite_false, reduceIte, decide_true, decide_false, reduceCtorEq, Bool.not_true, Bool.not_false, Bool.false_eq_true, Bool.true_eq_false, Bool.or_true, Bool.true_or, Bool.false_or, Bool.or_false, Bool.and_true, Bool.and_false, Bool.true_and, Bool.false_and, addI, subI, ltI, leI, gtI, geI, eqI, neI, E3.negI, ix_cell0, ix_cell1, E3.le0, E3.le1, E3.le2, E3.le3, E3.le4, E3.le5, E3.le6, beq_self_eq_true, Int.reduceBEq, E3.divmodI, E3.modI, E3.fdivI, E3.powL, E3.mulLL, E3.isi_bool_none, E3.isi_bool_bool, E3.isi_bool_int, E3.isi_bool_str, E3.isi_bool_list, E3.isi_bool_tuple, E3.isi_int_none, E3.isi_int_bool, E3.isi_int_int, E3.isi_int_str, E3.isi_int_list, E3.isi_int_tuple, E3.isi_str_none, E3.isi_str_bool, E3.isi_str_int, E3.isi_str_str, E3.isi_str_list, E3.isi_str_tuple, E3.isi_list_none, E3.isi_list_bool, E3.isi_list_int, E3.isi_list_str, E3.isi_list_list, E3.isi_list_tuple, E3.isi_tuple_none, E3.isi_tuple_bool, E3.isi_tuple_int, E3.isi_tuple_str, E3.isi_tuple_list, E3.isi_tuple_tuple, E3.isN_none, E3.ntN_none, E3.isN_bool, E3.ntN_bool, E3.isN_int, E3.ntN_int, E3.isN_str, E3.ntN_str, E3.isN_list, E3.ntN_list, E3.isN_tuple, E3.ntN_tuple, E3.len_list, E3.len_tup, E3.seq_list, E3.seq_tup, E3.tup_list, E3.tup_tup, E3.lst_list, E3.lst_tup, xM, xV, xB, xTB, x2, xAnd, xNil, xCons, xTup, xLst, xCall, xSl, xPotd, ownXd, potKd, ePotE, dropKV, fnPd, startPd, endPd, slL, eSlL, xPot, ownX, potK, XR.bind_ok, XR.bind_exc, XR.bind_stuck, XR.of_ok, XR.of_exc, XR.of_stuck, thenX_ok, thenX_exc, thenX_stuck, qSet, qRet, qIf, qAsg, qForR, qFor, H70.fR_i, H70.fR_b, H70.fR_ii, H70.fR_c, fnP, startP, endP, fnL, startL, endL, xPotL, xLast, fnN, endN, E3.ix_lst0, Int.cast_ofNat_Int])
local macro_rules | `(tactic| walk_at "evs") => `(tactic| try simp (disch := first | decide | decide +kernel | omega) only [fnD, xOr, xNot, startF, endF, sSeq, sAsg, sSet, sSetV, sAsgV, sIf, sRet, sNew, sNewV, sMut, sMutV, sFor, sForR, sFreeze, sNil, sExpr, optK, thenR_ok, thenR_exc, thenR_stuck,
  view, mask, E3.eVar_zero, E3.eVar_succ, eC, e1, e2, eCall, eTup, eLst, eSl, oNone, oSome, eAnd, eOr, eIf, E3.tAnd, E3.tOr, E3.tNot, E3.tB, asB, notD, aNil, aCons, Res.bind_ok, Res.bind_exc, Res.bind_stuck,
  gT, gsCons, gsNil, gN, tupD, lstD, Slot.dat, Slot.shd, List.length_cons, List.length_nil, List.map_cons, List.map_nil, List.replicate, List.append_nil, List.cons_append, List.nil_append, Option.map_some, Option.map_none, Option.bind_some, Option.bind_none,
  List.getElem?_cons_zero, List.getElem?_cons_succ, List.set_cons_zero, List.set_cons_succ, Nat.reduceAdd, Nat.reduceSub, Nat.reduceEqDiff, if_true, if_false, ite_true, ite_false, reduceIte, decide_true, decide_false, reduceCtorEq, Bool.not_true, Bool.not_false, Bool.false_eq_true, Bool.true_eq_false, Bool.or_true, Bool.true_or, Bool.false_or, Bool.or_false, Bool.and_true, Bool.and_false, Bool.true_and, Bool.false_and, addI, subI, ltI, leI, gtI, geI, eqI, neI, E3.negI, ix_cell0, ix_cell1, E3.le0, E3.le1, E3.le2, E3.le3, E3.le4, E3.le5, E3.le6, beq_self_eq_true, Int.reduceBEq, E3.divmodI, E3.modI, E3.fdivI, E3.powL, E3.mulLL, E3.isi_bool_none, E3.isi_bool_bool, E3.isi_bool_int, E3.isi_bool_str, E3.isi_bool_list, E3.isi_bool_tuple, E3.isi_int_none, E3.isi_int_bool, E3.isi_int_int, E3.isi_int_str, E3.isi_int_list, E3.isi_int_tuple, E3.isi_str_none, E3.isi_str_bool, E3.isi_str_int, E3.isi_str_str, E3.isi_str_list, E3.isi_str_tuple, E3.isi_list_none, E3.isi_list_bool, E3.isi_list_int, E3.isi_list_str, E3.isi_list_list, E3.isi_list_tuple, E3.isi_tuple_none, E3.isi_tuple_bool, E3.isi_tuple_int, E3.isi_tuple_str, E3.isi_tuple_list, E3.isi_tuple_tuple, E3.isN_none, E3.ntN_none, E3.isN_bool, E3.ntN_bool, E3.isN_int, E3.ntN_int, E3.isN_str, E3.ntN_str, E3.isN_list, E3.ntN_list, E3.isN_tuple, E3.ntN_tuple, E3.len_list, E3.len_tup, E3.seq_list, E3.seq_tup, E3.tup_list, E3.tup_tup, E3.lst_list, E3.lst_tup, xM, xV, xB, xTB, x2, xAnd, xNil, xCons, xTup, xLst, xCall, xSl, xPotd, ownXd, potKd, ePotE, dropKV, fnPd, startPd, endPd, slL, eSlL, xPot, ownX, potK, XR.bind_ok, XR.bind_exc, XR.bind_stuck, XR.of_ok, XR.of_exc, XR.of_stuck, thenX_ok, thenX_exc, thenX_stuck, qSet, qRet, qIf, qAsg, qForR, qFor, H70.fR_i, H70.fR_b, H70.fR_ii, H70.fR_c, fnP, startP, endP, fnL, startL, endL, xPotL, xLast, fnN, endN, E3.ix_lst0, Int.cast_ofNat_Int, *])
noncomputable section
def hs (ps : List Pt) (b : Bool) (p : Pt) : Bool := !(decide (p ∈ ps) == b)
end
end H70
namespace H70
open PySem PySem.Spec PyProof.Rows L2 E3 
local macro_rules | `(tactic| walk_at "ev") => `(tactic| try simp (disch := first | decide | decide +kernel | omega) only [fnD, xOr, xNot, startF, endF, sSeq, sAsg, sSet, sSetV, sAsgV, sIf, sRet, sNew, sNewV, sMut, sMutV, sFor, sForR, sFreeze, sNil, sExpr, optK, thenR_ok, thenR_exc, thenR_stuck,
  view, mask, E3.eVar_zero, E3.eVar_succ, eC, e1, e2, eCall, eTup, eLst, eSl, oNone, oSome, eAnd, eOr, eIf, E3.tAnd, E3.tOr, E3.tNot, E3.tB, asB, notD, aNil, aCons, Res.bind_ok, Res.bind_exc, Res.bind_stuck,
  gT, gsCons, gsNil, gN, tupD, lstD, Slot.dat, Slot.shd, List.length_cons, List.length_nil, List.map_cons, List.map_nil, List.replicate, List.append_nil, List.cons_append, List.nil_append, Option.map_some, Option.map_none, Option.bind_some, Option.bind_none,
  List.getElem?_cons_zero, List.getElem?_cons_succ, List.set_cons_zero, List.set_cons_succ, Nat.reduceAdd, Nat.reduceSub, Nat.reduceEqDiff, if_true, if_false, ite_true, ite_false, reduceIte, decide_true, decide_false, reduceCtorEq, Bool.not_true, Bool.not_false, Bool.false_eq_true, Bool.true_eq_false, Bool.or_true, Bool.true_or, Bool.false_or, Bool.or_false, Bool.and_true, Bool.and_false, Bool.true_and, Bool.false_and, addI, subI, ltI, leI, gtI, geI, eqI, neI, E3.negI, ix_cell0, ix_cell1, E3.le0, E3.le1, E3.le2, E3.le3, E3.le4, E3.le5, E3.le6, beq_self_eq_true, Int.reduceBEq, E3.divmodI, E3.modI, E3.fdivI, E3.powL, E3.mulLL, E3.isi_bool_none, E3.isi_bool_bool, E3.isi_bool_int, E3.isi_bool_str, E3.isi_bool_list, E3.isi_bool_tuple, E3.isi_int_none, E3.isi_int_bool, E3.isi_int_int, E3.isi_int_str, E3.isi_int_list, E3.isi_int_tuple, E3.isi_str_none, E3.isi_str_bool, E3.isi_str_int, E3.isi_str_str, E3.isi_str_list, E3.isi_str_tuple, E3.isi_list_none, E3.isi_list_bool, E3.isi_list_int, E3.isi_list_str, E3.isi_list_list, E3.isi_list_tuple, E3.isi_tuple_none, E3.isi_tuple_bool, E3.isi_tuple_int, E3.isi_tuple_str, E3.isi_tuple_list, E3.isi_tuple_tuple, E3.isN_none, E3.ntN_none, E3.isN_bool, E3.ntN_bool, E3.isN_int, E3.ntN_int, E3.isN_str, E3.ntN_str, E3.isN_list, E3.ntN_list, E3.isN_tuple, E3.ntN_tuple, E3.len_list, E3.len_tup, E3.seq_list, E3.seq_tup, E3.tup_list, E3.tup_tup, E3.lst_list, E3.lst_tup, xM, xV, xB, xTB, x2, xAnd, xNil, xCons, xTup, xLst, xCall, xSl, xPotd, ownXd, potKd, ePotE, dropKV, fnPd, startPd, endPd, slL, eSlL, xPot, ownX, potK, XR.bind_ok, XR.bind_exc, XR.bind_stuck, XR.of_ok, XR.of_exc, XR.of_stuck, thenX_ok, thenX_exc, thenX_stuck, qSet, qRet, qIf, qAsg, qForR, qFor, H70.fR_i, H70.fR_b, H70.fR_ii, H70.fR_c, fnP, startP, endP, fnL, startL, endL, xPotL, xLast, fnN, endN, E3.ix_lst0, Int.cast_ofNat_Int])
local macro_rules | `(tactic| walk_at "evs") => `(tactic| try simp (disch := first | decide | decide +kernel | omega) only [fnD, xOr, xNot, startF, endF, sSeq, sAsg, sSet, sSetV, sAsgV, sIf, sRet, sNew, sNewV, sMut, sMutV, sFor, sForR, sFreeze, sNil, sExpr, optK, thenR_ok, thenR_exc, thenR_stuck,
  view, mask, E3.eVar_zero, E3.eVar_succ, eC, e1, e2, eCall, eTup, eLst, eSl, oNone, oSome, eAnd, eOr, eIf, E3.tAnd, E3.tOr, E3.tNot, E3.tB, asB, notD, aNil, aCons, Res.bind_ok, Res.bind_exc, Res.bind_stuck,
  gT, gsCons, gsNil, gN, tupD, lstD, Slot.dat, Slot.shd, List.length_cons, List.length_nil, List.map_cons, List.map_nil, List.replicate, List.append_nil, List.cons_append, List.nil_append, Option.map_some, Option.map_none, Option.bind_some, Option.bind_none,
  List.getElem?_cons_zero, List.getElem?_cons_succ, List.set_cons_zero, List.set_cons_succ, Nat.reduceAdd, Nat.reduceSub, Nat.reduceEqDiff, if_true, if_false, ite_true, ite_false, reduceIte, decide_true, decide_false, reduceCtorEq, Bool.not_true, Bool.not_false, Bool.false_eq_true, Bool.true_eq_false, Bool.or_true, Bool.true_or, Bool.false_or, Bool.or_false, Bool.and_true, Bool.and_false, Bool.true_and, Bool.false_and, addI, subI, ltI, leI, gtI, geI, eqI, neI, E3.negI, ix_cell0, ix_cell1, E3.le0, E3.le1, E3.le2, E3.le3, E3.le4, E3.le5, E3.le6, beq_self_eq_true, Int.reduceBEq, E3.divmodI, E3.modI, E3.fdivI, E3.powL, E3.mulLL, E3.isi_bool_none, E3.isi_bool_bool, E3.isi_bool_int, E3.isi_bool_str, E3.isi_bool_list, E3.isi_bool_tuple, E3.isi_int_none, E3.isi_int_bool, E3.isi_int_int, E3.isi_int_str, E3.isi_int_list, E3.isi_int_tuple, E3.isi_str_none, E3.isi_str_bool, E3.isi_str_int, E3.isi_str_str, E3.isi_str_list, E3.isi_str_tuple, E3.isi_list_none, E3.isi_list_bool, E3.isi_list_int, E3.isi_list_str, E3.isi_list_list, E3.isi_list_tuple, E3.isi_tuple_none, E3.isi_tuple_bool, E3.isi_tuple_int, E3.isi_tuple_str, E3.isi_tuple_list, E3.isi_tuple_tuple, E3.isN_none, E3.ntN_none, E3.isN_bool, E3.ntN_bool, E3.isN_int, E3.ntN_int, E3.isN_str, E3.ntN_str, E3.isN_list, E3.ntN_list, E3.isN_tuple, E3.ntN_tuple, E3.len_list, E3.len_tup, E3.seq_list, E3.seq_tup, E3.tup_list, E3.tup_tup, E3.lst_list, E3.lst_tup, xM, xV, xB, xTB, x2, xAnd, xNil, xCons, xTup, xLst, xCall, xSl, xPotd, ownXd, potKd, ePotE, dropKV, fnPd, startPd, endPd, slL, eSlL, xPot, ownX, potK, XR.bind_ok, XR.bind_exc, XR.bind_stuck, XR.of_ok, XR.of_exc, XR.of_stuck, thenX_ok, thenX_exc, thenX_stuck, qSet, qRet, qIf, qAsg, qForR, qFor, H70.fR_i, H70.fR_b, H70.fR_ii, H70.fR_c, fnP, startP, endP, fnL, startL, endL, xPotL, xLast, fnN, endN, E3.ix_lst0, Int.cast_ofNat_Int, *])
def Adj (p q : Pt) : Prop := (p.1 - q.1 ≤ 1 ∧ q.1 - p.1 ≤ 1) ∧ (p.2 - q.2 ≤ 1 ∧ q.2 - p.2 ≤ 1)
def ind (x p q : Pt) : Bool := (decide (p.1 = x.1) && decide (q.1 = x.1 + 1) && decide (x.2 < p.2)) || (decide (q.1 = x.1) && decide (p.1 = x.1 + 1) && decide (x.2 < q.2))
end H70
namespace H70
open PySem PySem.Spec PyProof.Rows L2 E3 
local macro_rules | `(tactic| walk_at "ev") => `(tactic| try simp (disch := first | decide | decide +kernel | omega) only [fnD, xOr, xNot, startF, endF, sSeq, sAsg, sSet, sSetV, sAsgV, sIf, sRet, sNew, sNewV, sMut, sMutV, sFor, sForR, sFreeze, sNil, sExpr, optK, thenR_ok, thenR_exc, thenR_stuck,
  view, mask, E3.eVar_zero, E3.eVar_succ, eC, e1, e2, eCall, eTup, eLst, eSl, oNone, oSome, eAnd, eOr, eIf, E3.tAnd, E3.tOr, E3.tNot, E3.tB, asB, notD, aNil, aCons, Res.bind_ok, Res.bind_exc, Res.bind_stuck,
  gT, gsCons, gsNil, gN, tupD, lstD, Slot.dat, Slot.shd, List.length_cons, List.length_nil, List.map_cons, List.map_nil, List.replicate, List.append_nil, List.cons_append, List.nil_append, Option.map_some, Option.map_none, Option.bind_some, Option.bind_none,
  List.getElem?_cons_zero, List.getElem?_cons_succ, List.set_cons_zero, List.set_cons_succ, Nat.reduceAdd, Nat.reduceSub, Nat.reduceEqDiff, if_true, if_false, ite_true, ite_false, reduceIte, decide_true, decide_false, reduceCtorEq, Bool.not_true, Bool.not_false, Bool.false_eq_true, Bool.true_eq_false, Bool.or_true, Bool.true_or, Bool.false_or, Bool.or_false, Bool.and_true, Bool.and_false, Bool.true_and, Bool.false_and, addI, subI, ltI, leI, gtI, geI, eqI, neI, E3.negI, ix_cell0, ix_cell1, E3.le0, E3.le1, E3.le2, E3.le3, E3.le4, E3.le5, E3.le6, beq_self_eq_true, Int.reduceBEq, E3.divmodI, E3.modI, E3.fdivI, E3.powL, E3.mulLL, E3.isi_bool_none, E3.isi_bool_bool, E3.isi_bool_int, E3.isi_bool_str, E3.isi_bool_list, E3.isi_bool_tuple, E3.isi_int_none, E3.isi_int_bool, E3.isi_int_int, E3.isi_int_str, E3.isi_int_list, E3.isi_int_tuple, E3.isi_str_none, E3.isi_str_bool, E3.isi_str_int, E3.isi_str_str, E3.isi_str_list, E3.isi_str_tuple, E3.isi_list_none, E3.isi_list_bool, E3.isi_list_int, E3.isi_list_str, E3.isi_list_list, E3.isi_list_tuple, E3.isi_tuple_none, E3.isi_tuple_bool, E3.isi_tuple_int, E3.isi_tuple_str, E3.isi_tuple_list, E3.isi_tuple_tuple, E3.isN_none, E3.ntN_none, E3.isN_bool, E3.ntN_bool, E3.isN_int, E3.ntN_int, E3.isN_str, E3.ntN_str, E3.isN_list, E3.ntN_list, E3.isN_tuple, E3.ntN_tuple, E3.len_list, E3.len_tup, E3.seq_list, E3.seq_tup, E3.tup_list, E3.tup_tup, E3.lst_list, E3.lst_tup, xM, xV, xB, xTB, x2, xAnd, xNil, xCons, xTup, xLst, xCall, xSl, xPotd, ownXd, potKd, ePotE, dropKV, fnPd, startPd, endPd, slL, eSlL, xPot, ownX, potK, XR.bind_ok, XR.bind_exc, XR.bind_stuck, XR.of_ok, XR.of_exc, XR.of_stuck, thenX_ok, thenX_exc, thenX_stuck, qSet, qRet, qIf, qAsg, qForR, qFor, H70.fR_i, H70.fR_b, H70.fR_ii, H70.fR_c, fnP, startP, endP, fnL, startL, endL, xPotL, xLast, fnN, endN, E3.ix_lst0, Int.cast_ofNat_Int])
local macro_rules | `(tactic| walk_at "evs") => `(tactic| try simp (disch := first | decide | decide +kernel | omega) only [fnD, xOr, xNot, startF, endF, sSeq, sAsg, sSet, sSetV, sAsgV, sIf, sRet, sNew, sNewV, sMut, sMutV, sFor, sForR, sFreeze, sNil, sExpr, optK, thenR_ok, thenR_exc, thenR_stuck,
  view, mask, E3.eVar_zero, E3.eVar_succ, eC, e1, e2, eCall, eTup, eLst, eSl, oNone, oSome, eAnd, eOr, eIf, E3.tAnd, E3.tOr, E3.tNot, E3.tB, asB, notD, aNil, aCons, Res.bind_ok, Res.bind_exc, Res.bind_stuck,
  gT, gsCons, gsNil, gN, tupD, lstD, Slot.dat, Slot.shd, List.length_cons, List.length_nil, List.map_cons, List.map_nil, List.replicate, List.append_nil, List.cons_append, List.nil_append, Option.map_some, Option.map_none, Option.bind_some, Option.bind_none,
  List.getElem?_cons_zero, List.getElem?_cons_succ, List.set_cons_zero, List.set_cons_succ, Nat.reduceAdd, Nat.reduceSub, Nat.reduceEqDiff, if_true, if_false, ite_true, ite_false, reduceIte, decide_true, decide_false, reduceCtorEq, Bool.not_true, Bool.not_false, Bool.false_eq_true, Bool.true_eq_false, Bool.or_true, Bool.true_or, Bool.false_or, Bool.or_false, Bool.and_true, Bool.and_false, Bool.true_and, Bool.false_and, addI, subI, ltI, leI, gtI, geI, eqI, neI, E3.negI, ix_cell0, ix_cell1, E3.le0, E3.le1, E3.le2, E3.le3, E3.le4, E3.le5, E3.le6, beq_self_eq_true, Int.reduceBEq, E3.divmodI, E3.modI, E3.fdivI, E3.powL, E3.mulLL, E3.isi_bool_none, E3.isi_bool_bool, E3.isi_bool_int, E3.isi_bool_str, E3.isi_bool_list, E3.isi_bool_tuple, E3.isi_int_none, E3.isi_int_bool, E3.isi_int_int, E3.isi_int_str, E3.isi_int_list, E3.isi_int_tuple, E3.isi_str_none, E3.isi_str_bool, E3.isi_str_int, E3.isi_str_str, E3.isi_str_list, E3.isi_str_tuple, E3.isi_list_none, E3.isi_list_bool, E3.isi_list_int, E3.isi_list_str, E3.isi_list_list, E3.isi_list_tuple, E3.isi_tuple_none, E3.isi_tuple_bool, E3.isi_tuple_int, E3.isi_tuple_str, E3.isi_tuple_list, E3.isi_tuple_tuple, E3.isN_none, E3.ntN_none, E3.isN_bool, E3.ntN_bool, E3.isN_int, E3.ntN_int, E3.isN_str, E3.ntN_str, E3.isN_list, E3.ntN_list, E3.isN_tuple, E3.ntN_tuple, E3.len_list, E3.len_tup, E3.seq_list, E3.seq_tup, E3.tup_list, E3.tup_tup, E3.lst_list, E3.lst_tup, xM, xV, xB, xTB, x2, xAnd, xNil, xCons, xTup, xLst, xCall, xSl, xPotd, ownXd, potKd, ePotE, dropKV, fnPd, startPd, endPd, slL, eSlL, xPot, ownX, potK, XR.bind_ok, XR.bind_exc, XR.bind_stuck, XR.of_ok, XR.of_exc, XR.of_stuck, thenX_ok, thenX_exc, thenX_stuck, qSet, qRet, qIf, qAsg, qForR, qFor, H70.fR_i, H70.fR_b, H70.fR_ii, H70.fR_c, fnP, startP, endP, fnL, startL, endL, xPotL, xLast, fnN, endN, E3.ix_lst0, Int.cast_ofNat_Int, *])
theorem nb {c a : Pt} (h : Adj a c) : ∃ i j : Int, (i = -1 ∨ i = 0 ∨ i = 1) ∧ (j = -1 ∨ j = 0 ∨ j = 1) ∧ a = (c.1 + i, c.2 + j) := by
  obtain ⟨⟨h1, h2⟩, h3, h4⟩ := h
  exact ⟨a.1 - c.1, a.2 - c.2, by omega, by omega, Prod.ext (show a.1 = c.1 + (a.1 - c.1) by omega) (show a.2 = c.2 + (a.2 - c.2) by omega)⟩
end H70
namespace H70
open PySem PySem.Spec PyProof.Rows L2 E3 
local macro_rules | `(tactic| walk_at "ev") => `(tactic| try simp (disch := first | decide | decide +kernel | omega) only [fnD, xOr, xNot, startF, endF, sSeq, sAsg, sSet, sSetV, sAsgV, sIf, sRet, sNew, sNewV, sMut, sMutV, sFor, sForR, sFreeze, sNil, sExpr, optK, thenR_ok, thenR_exc, thenR_stuck,
  view, mask, E3.eVar_zero, E3.eVar_succ, eC, e1, e2, eCall, eTup, eLst, eSl, oNone, oSome, eAnd, eOr, eIf, E3.tAnd, E3.tOr, E3.tNot, E3.tB, asB, notD, aNil, aCons, Res.bind_ok, Res.bind_exc, Res.bind_stuck,
  gT, gsCons, gsNil, gN, tupD, lstD, Slot.dat, Slot.shd, List.length_cons, List.length_nil, List.map_cons, List.map_nil, List.replicate, List.append_nil, List.cons_append, List.nil_append, Option.map_some, Option.map_none, Option.bind_some, Option.bind_none,
  List.getElem?_cons_zero, List.getElem?_cons_succ, List.set_cons_zero, List.set_cons_succ, Nat.reduceAdd, Nat.reduceSub, Nat.reduceEqDiff, if_true, if_false, ite_true, ite_false, reduceIte, decide_true, decide_false, reduceCtorEq, Bool.not_true, Bool.not_false, Bool.false_eq_true, Bool.true_eq_false, Bool.or_true, Bool.true_or, Bool.false_or, Bool.or_false, Bool.and_true, Bool.and_false, Bool.true_and, Bool.false_and, addI, subI, ltI, leI, gtI, geI, eqI, neI, E3.negI, ix_cell0, ix_cell1, E3.le0, E3.le1, E3.le2, E3.le3, E3.le4, E3.le5, E3.le6, beq_self_eq_true, Int.reduceBEq, E3.divmodI, E3.modI, E3.fdivI, E3.powL, E3.mulLL, E3.isi_bool_none, E3.isi_bool_bool, E3.isi_bool_int, E3.isi_bool_str, E3.isi_bool_list, E3.isi_bool_tuple, E3.isi_int_none, E3.isi_int_bool, E3.isi_int_int, E3.isi_int_str, E3.isi_int_list, E3.isi_int_tuple, E3.isi_str_none, E3.isi_str_bool, E3.isi_str_int, E3.isi_str_str, E3.isi_str_list, E3.isi_str_tuple, E3.isi_list_none, E3.isi_list_bool, E3.isi_list_int, E3.isi_list_str, E3.isi_list_list, E3.isi_list_tuple, E3.isi_tuple_none, E3.isi_tuple_bool, E3.isi_tuple_int, E3.isi_tuple_str, E3.isi_tuple_list, E3.isi_tuple_tuple, E3.isN_none, E3.ntN_none, E3.isN_bool, E3.ntN_bool, E3.isN_int, E3.ntN_int, E3.isN_str, E3.ntN_str, E3.isN_list, E3.ntN_list, E3.isN_tuple, E3.ntN_tuple, E3.len_list, E3.len_tup, E3.seq_list, E3.seq_tup, E3.tup_list, E3.tup_tup, E3.lst_list, E3.lst_tup, xM, xV, xB, xTB, x2, xAnd, xNil, xCons, xTup, xLst, xCall, xSl, xPotd, ownXd, potKd, ePotE, dropKV, fnPd, startPd, endPd, slL, eSlL, xPot, ownX, potK, XR.bind_ok, XR.bind_exc, XR.bind_stuck, XR.of_ok, XR.of_exc, XR.of_stuck, thenX_ok, thenX_exc, thenX_stuck, qSet, qRet, qIf, qAsg, qForR, qFor, H70.fR_i, H70.fR_b, H70.fR_ii, H70.fR_c, fnP, startP, endP, fnL, startL, endL, xPotL, xLast, fnN, endN, E3.ix_lst0, Int.cast_ofNat_Int])
local macro_rules | `(tactic| walk_at "evs") => `(tactic| try simp (disch := first | decide | decide +kernel | omega) only [fnD, xOr, xNot, startF, endF, sSeq, sAsg, sSet, sSetV, sAsgV, sIf, sRet, sNew, sNewV, sMut, sMutV, sFor, sForR, sFreeze, sNil, sExpr, optK, thenR_ok, thenR_exc, thenR_stuck,
  view, mask, E3.eVar_zero, E3.eVar_succ, eC, e1, e2, eCall, eTup, eLst, eSl, oNone, oSome, eAnd, eOr, eIf, E3.tAnd, E3.tOr, E3.tNot, E3.tB, asB, notD, aNil, aCons, Res.bind_ok, Res.bind_exc, Res.bind_stuck,
  gT, gsCons, gsNil, gN, tupD, lstD, Slot.dat, Slot.shd, List.length_cons, List.length_nil, List.map_cons, List.map_nil, List.replicate, List.append_nil, List.cons_append, List.nil_append, Option.map_some, Option.map_none, Option.bind_some, Option.bind_none,
  List.getElem?_cons_zero, List.getElem?_cons_succ, List.set_cons_zero, List.set_cons_succ, Nat.reduceAdd, Nat.reduceSub, Nat.reduceEqDiff, if_true, if_false, ite_true, ite_false, reduceIte, decide_true, decide_false, reduceCtorEq, Bool.not_true, Bool.not_false, Bool.false_eq_true, Bool.true_eq_false, Bool.or_true, Bool.true_or, Bool.false_or, Bool.or_false, Bool.and_true, Bool.and_false, Bool.true_and, Bool.false_and, addI, subI, ltI, leI, gtI, geI, eqI, neI, E3.negI, ix_cell0, ix_cell1, E3.le0, E3.le1, E3.le2, E3.le3, E3.le4, E3.le5, E3.le6, beq_self_eq_true, Int.reduceBEq, E3.divmodI, E3.modI, E3.fdivI, E3.powL, E3.mulLL, E3.isi_bool_none, E3.isi_bool_bool, E3.isi_bool_int, E3.isi_bool_str, E3.isi_bool_list, E3.isi_bool_tuple, E3.isi_int_none, E3.isi_int_bool, E3.isi_int_int, E3.isi_int_str, E3.isi_int_list, E3.isi_int_tuple, E3.isi_str_none, E3.isi_str_bool, E3.isi_str_int, E3.isi_str_str, E3.isi_str_list, E3.isi_str_tuple, E3.isi_list_none, E3.isi_list_bool, E3.isi_list_int, E3.isi_list_str, E3.isi_list_list, E3.isi_list_tuple, E3.isi_tuple_none, E3.isi_tuple_bool, E3.isi_tuple_int, E3.isi_tuple_str, E3.isi_tuple_list, E3.isi_tuple_tuple, E3.isN_none, E3.ntN_none, E3.isN_bool, E3.ntN_bool, E3.isN_int, E3.ntN_int, E3.isN_str, E3.ntN_str, E3.isN_list, E3.ntN_list, E3.isN_tuple, E3.ntN_tuple, E3.len_list, E3.len_tup, E3.seq_list, E3.seq_tup, E3.tup_list, E3.tup_tup, E3.lst_list, E3.lst_tup, xM, xV, xB, xTB, x2, xAnd, xNil, xCons, xTup, xLst, xCall, xSl, xPotd, ownXd, potKd, ePotE, dropKV, fnPd, startPd, endPd, slL, eSlL, xPot, ownX, potK, XR.bind_ok, XR.bind_exc, XR.bind_stuck, XR.of_ok, XR.of_exc, XR.of_stuck, thenX_ok, thenX_exc, thenX_stuck, qSet, qRet, qIf, qAsg, qForR, qFor, H70.fR_i, H70.fR_b, H70.fR_ii, H70.fR_c, fnP, startP, endP, fnL, startL, endL, xPotL, xLast, fnN, endN, E3.ix_lst0, Int.cast_ofNat_Int, *])
inductive Conn4 (P : Pt → Prop) : Pt → Pt → Prop
  | refl {x : Pt} : P x → Conn4 P x x
  | east {x y : Pt} : Conn4 P x y → P (y.1, y.2 + 1) → Conn4 P x (y.1, y.2 + 1)
  | west {x y : Pt} : Conn4 P x (y.1, y.2 + 1) → P y → Conn4 P x y
  | south {x y : Pt} : Conn4 P x y → P (y.1 + 1, y.2) → Conn4 P x (y.1 + 1, y.2)
  | north {x y : Pt} : Conn4 P x (y.1 + 1, y.2) → P y → Conn4 P x y
theorem Conn4.snd {P : Pt → Prop} {x y : Pt} (h : Conn4 P x y) : P y := by
  cases h with
  | refl h => exact h
  | east _ h => exact h
  | west _ h => exact h
  | south _ h => exact h
  | north _ h => exact h
theorem Adj.symm {p q : Pt} (h : Adj p q) : Adj q p := ⟨⟨h.1.2, h.1.1⟩, ⟨h.2.2, h.2.1⟩⟩
end H70
namespace H70
open PySem PySem.Spec PyProof.Rows L2 E3 
local macro_rules | `(tactic| walk_at "ev") => `(tactic| try simp (disch := first | decide | decide +kernel | omega) only [fnD, xOr, xNot, startF, endF, sSeq, sAsg, sSet, sSetV, sAsgV, sIf, sRet, sNew, sNewV, sMut, sMutV, sFor, sForR, sFreeze, sNil, sExpr, optK, thenR_ok, thenR_exc, thenR_stuck,
  view, mask, E3.eVar_zero, E3.eVar_succ, eC, e1, e2, eCall, eTup, eLst, eSl, oNone, oSome, eAnd, eOr, eIf, E3.tAnd, E3.tOr, E3.tNot, E3.tB, asB, notD, aNil, aCons, Res.bind_ok, Res.bind_exc, Res.bind_stuck,
  gT, gsCons, gsNil, gN, tupD, lstD, Slot.dat, Slot.shd, List.length_cons, List.length_nil, List.map_cons, List.map_nil, List.replicate, List.append_nil, List.cons_append, List.nil_append, Option.map_some, Option.map_none, Option.bind_some, Option.bind_none,
  List.getElem?_cons_zero, List.getElem?_cons_succ, List.set_cons_zero, List.set_cons_succ, Nat.reduceAdd, Nat.reduceSub, Nat.reduceEqDiff, if_true, if_false, ite_true, ite_false, reduceIte, decide_true, decide_false, reduceCtorEq, Bool.not_true, Bool.not_false, Bool.false_eq_true, Bool.true_eq_false, Bool.or_true, Bool.true_or, Bool.false_or, Bool.or_false, Bool.and_true, Bool.and_false, Bool.true_and, Bool.false_and, addI, subI, ltI, leI, gtI, geI, eqI, neI, E3.negI, ix_cell0, ix_cell1, E3.le0, E3.le1, E3.le2, E3.le3, E3.le4, E3.le5, E3.le6, beq_self_eq_true, Int.reduceBEq, E3.divmodI, E3.modI, E3.fdivI, E3.powL, E3.mulLL, E3.isi_bool_none, E3.isi_bool_bool, E3.isi_bool_int, E3.isi_bool_str, E3.isi_bool_list, E3.isi_bool_tuple, E3.isi_int_none, E3.isi_int_bool, E3.isi_int_int, E3.isi_int_str, E3.isi_int_list, E3.isi_int_tuple, E3.isi_str_none, E3.isi_str_bool, E3.isi_str_int, E3.isi_str_str, E3.isi_str_list, E3.isi_str_tuple, E3.isi_list_none, E3.isi_list_bool, E3.isi_list_int, E3.isi_list_str, E3.isi_list_list, E3.isi_list_tuple, E3.isi_tuple_none, E3.isi_tuple_bool, E3.isi_tuple_int, E3.isi_tuple_str, E3.isi_tuple_list, E3.isi_tuple_tuple, E3.isN_none, E3.ntN_none, E3.isN_bool, E3.ntN_bool, E3.isN_int, E3.ntN_int, E3.isN_str, E3.ntN_str, E3.isN_list, E3.ntN_list, E3.isN_tuple, E3.ntN_tuple, E3.len_list, E3.len_tup, E3.seq_list, E3.seq_tup, E3.tup_list, E3.tup_tup, E3.lst_list, E3.lst_tup, xM, xV, xB, xTB, x2, xAnd, xNil, xCons, xTup, xLst, xCall, xSl, xPotd, ownXd, potKd, ePotE, dropKV, fnPd, startPd, endPd, slL, eSlL, xPot, ownX, potK, XR.bind_ok, XR.bind_exc, XR.bind_stuck, XR.of_ok, XR.of_exc, XR.of_stuck, thenX_ok, thenX_exc, thenX_stuck, qSet, qRet, qIf, qAsg, qForR, qFor, H70.fR_i, H70.fR_b, H70.fR_ii, H70.fR_c, fnP, startP, endP, fnL, startL, endL, xPotL, xLast, fnN, endN, E3.ix_lst0, Int.cast_ofNat_Int])
local macro_rules | `(tactic| walk_at "evs") => `(tactic| try simp (disch := first | decide | decide +kernel | omega) only [fnD, xOr, xNot, startF, endF, sSeq, sAsg, sSet, sSetV, sAsgV, sIf, sRet, sNew, sNewV, sMut, sMutV, sFor, sForR, sFreeze, sNil, sExpr, optK, thenR_ok, thenR_exc, thenR_stuck,
  view, mask, E3.eVar_zero, E3.eVar_succ, eC, e1, e2, eCall, eTup, eLst, eSl, oNone, oSome, eAnd, eOr, eIf, E3.tAnd, E3.tOr, E3.tNot, E3.tB, asB, notD, aNil, aCons, Res.bind_ok, Res.bind_exc, Res.bind_stuck,
  gT, gsCons, gsNil, gN, tupD, lstD, Slot.dat, Slot.shd, List.length_cons, List.length_nil, List.map_cons, List.map_nil, List.replicate, List.append_nil, List.cons_append, List.nil_append, Option.map_some, Option.map_none, Option.bind_some, Option.bind_none,
  List.getElem?_cons_zero, List.getElem?_cons_succ, List.set_cons_zero, List.set_cons_succ, Nat.reduceAdd, Nat.reduceSub, Nat.reduceEqDiff, if_true, if_false, ite_true, ite_false, reduceIte, decide_true, decide_false, reduceCtorEq, Bool.not_true, Bool.not_false, Bool.false_eq_true, Bool.true_eq_false, Bool.or_true, Bool.true_or, Bool.false_or, Bool.or_false, Bool.and_true, Bool.and_false, Bool.true_and, Bool.false_and, addI, subI, ltI, leI, gtI, geI, eqI, neI, E3.negI, ix_cell0, ix_cell1, E3.le0, E3.le1, E3.le2, E3.le3, E3.le4, E3.le5, E3.le6, beq_self_eq_true, Int.reduceBEq, E3.divmodI, E3.modI, E3.fdivI, E3.powL, E3.mulLL, E3.isi_bool_none, E3.isi_bool_bool, E3.isi_bool_int, E3.isi_bool_str, E3.isi_bool_list, E3.isi_bool_tuple, E3.isi_int_none, E3.isi_int_bool, E3.isi_int_int, E3.isi_int_str, E3.isi_int_list, E3.isi_int_tuple, E3.isi_str_none, E3.isi_str_bool, E3.isi_str_int, E3.isi_str_str, E3.isi_str_list, E3.isi_str_tuple, E3.isi_list_none, E3.isi_list_bool, E3.isi_list_int, E3.isi_list_str, E3.isi_list_list, E3.isi_list_tuple, E3.isi_tuple_none, E3.isi_tuple_bool, E3.isi_tuple_int, E3.isi_tuple_str, E3.isi_tuple_list, E3.isi_tuple_tuple, E3.isN_none, E3.ntN_none, E3.isN_bool, E3.ntN_bool, E3.isN_int, E3.ntN_int, E3.isN_str, E3.ntN_str, E3.isN_list, E3.ntN_list, E3.isN_tuple, E3.ntN_tuple, E3.len_list, E3.len_tup, E3.seq_list, E3.seq_tup, E3.tup_list, E3.tup_tup, E3.lst_list, E3.lst_tup, xM, xV, xB, xTB, x2, xAnd, xNil, xCons, xTup, xLst, xCall, xSl, xPotd, ownXd, potKd, ePotE, dropKV, fnPd, startPd, endPd, slL, eSlL, xPot, ownX, potK, XR.bind_ok, XR.bind_exc, XR.bind_stuck, XR.of_ok, XR.of_exc, XR.of_stuck, thenX_ok, thenX_exc, thenX_stuck, qSet, qRet, qIf, qAsg, qForR, qFor, H70.fR_i, H70.fR_b, H70.fR_ii, H70.fR_c, fnP, startP, endP, fnL, startL, endL, xPotL, xLast, fnN, endN, E3.ix_lst0, Int.cast_ofNat_Int, *])
end H70
namespace H70
open PySem PySem.Spec PyProof.Rows L2 E3 
local macro_rules | `(tactic| walk_at "ev") => `(tactic| try simp (disch := first | decide | decide +kernel | omega) only [fnD, xOr, xNot, startF, endF, sSeq, sAsg, sSet, sSetV, sAsgV, sIf, sRet, sNew, sNewV, sMut, sMutV, sFor, sForR, sFreeze, sNil, sExpr, optK, thenR_ok, thenR_exc, thenR_stuck,
  view, mask, E3.eVar_zero, E3.eVar_succ, eC, e1, e2, eCall, eTup, eLst, eSl, oNone, oSome, eAnd, eOr, eIf, E3.tAnd, E3.tOr, E3.tNot, E3.tB, asB, notD, aNil, aCons, Res.bind_ok, Res.bind_exc, Res.bind_stuck,
  gT, gsCons, gsNil, gN, tupD, lstD, Slot.dat, Slot.shd, List.length_cons, List.length_nil, List.map_cons, List.map_nil, List.replicate, List.append_nil, List.cons_append, List.nil_append, Option.map_some, Option.map_none, Option.bind_some, Option.bind_none,
  List.getElem?_cons_zero, List.getElem?_cons_succ, List.set_cons_zero, List.set_cons_succ, Nat.reduceAdd, Nat.reduceSub, Nat.reduceEqDiff, if_true, if_false, ite_true, ite_false, reduceIte, decide_true, decide_false, reduceCtorEq, Bool.not_true, Bool.not_false, Bool.false_eq_true, Bool.true_eq_false, Bool.or_true, Bool.true_or, Bool.false_or, Bool.or_false, Bool.and_true, Bool.and_false, Bool.true_and, Bool.false_and, addI, subI, ltI, leI, gtI, geI, eqI, neI, E3.negI, ix_cell0, ix_cell1, E3.le0, E3.le1, E3.le2, E3.le3, E3.le4, E3.le5, E3.le6, beq_self_eq_true, Int.reduceBEq, E3.divmodI, E3.modI, E3.fdivI, E3.powL, E3.mulLL, E3.isi_bool_none, E3.isi_bool_bool, E3.isi_bool_int, E3.isi_bool_str, E3.isi_bool_list, E3.isi_bool_tuple, E3.isi_int_none, E3.isi_int_bool, E3.isi_int_int, E3.isi_int_str, E3.isi_int_list, E3.isi_int_tuple, E3.isi_str_none, E3.isi_str_bool, E3.isi_str_int, E3.isi_str_str, E3.isi_str_list, E3.isi_str_tuple, E3.isi_list_none, E3.isi_list_bool, E3.isi_list_int, E3.isi_list_str, E3.isi_list_list, E3.isi_list_tuple, E3.isi_tuple_none, E3.isi_tuple_bool, E3.isi_tuple_int, E3.isi_tuple_str, E3.isi_tuple_list, E3.isi_tuple_tuple, E3.isN_none, E3.ntN_none, E3.isN_bool, E3.ntN_bool, E3.isN_int, E3.ntN_int, E3.isN_str, E3.ntN_str, E3.isN_list, E3.ntN_list, E3.isN_tuple, E3.ntN_tuple, E3.len_list, E3.len_tup, E3.seq_list, E3.seq_tup, E3.tup_list, E3.tup_tup, E3.lst_list, E3.lst_tup, xM, xV, xB, xTB, x2, xAnd, xNil, xCons, xTup, xLst, xCall, xSl, xPotd, ownXd, potKd, ePotE, dropKV, fnPd, startPd, endPd, slL, eSlL, xPot, ownX, potK, XR.bind_ok, XR.bind_exc, XR.bind_stuck, XR.of_ok, XR.of_exc, XR.of_stuck, thenX_ok, thenX_exc, thenX_stuck, qSet, qRet, qIf, qAsg, qForR, qFor, H70.fR_i, H70.fR_b, H70.fR_ii, H70.fR_c, fnP, startP, endP, fnL, startL, endL, xPotL, xLast, fnN, endN, E3.ix_lst0, Int.cast_ofNat_Int])
local macro_rules | `(tactic| walk_at "evs") => `(tactic| try simp (disch := first | decide | decide +kernel | omega) only [fnD, xOr, xNot, startF, endF, sSeq, sAsg, sSet, sSetV, sAsgV, sIf, sRet, sNew, sNewV, sMut, sMutV, sFor, sForR, sFreeze, sNil, sExpr, optK, thenR_ok, thenR_exc, thenR_stuck,
  view, mask, E3.eVar_zero, E3.eVar_succ, eC, e1, e2, eCall, eTup, eLst, eSl, oNone, oSome, eAnd, eOr, eIf, E3.tAnd, E3.tOr, E3.tNot, E3.tB, asB, notD, aNil, aCons, Res.bind_ok, Res.bind_exc, Res.bind_stuck,
  gT, gsCons, gsNil, gN, tupD, lstD, Slot.dat, Slot.shd, List.length_cons, List.length_nil, List.map_cons, List.map_nil, List.replicate, List.append_nil, List.cons_append, List.nil_append, Option.map_some, Option.map_none, Option.bind_some, Option.bind_none,
  List.getElem?_cons_zero, List.getElem?_cons_succ, List.set_cons_zero, List.set_cons_succ, Nat.reduceAdd, Nat.reduceSub, Nat.reduceEqDiff, if_true, if_false, ite_true, ite_false, reduceIte, decide_true, decide_false, reduceCtorEq, Bool.not_true, Bool.not_false, Bool.false_eq_true, Bool.true_eq_false, Bool.or_true, Bool.true_or, Bool.false_or, Bool.or_false, Bool.and_true, Bool.and_false, Bool.true_and, Bool.false_and, addI, subI, ltI, leI, gtI, geI, eqI, neI, E3.negI, ix_cell0, ix_cell1, E3.le0, E3.le1, E3.le2, E3.le3, E3.le4, E3.le5, E3.le6, beq_self_eq_true, Int.reduceBEq, E3.divmodI, E3.modI, E3.fdivI, E3.powL, E3.mulLL, E3.isi_bool_none, E3.isi_bool_bool, E3.isi_bool_int, E3.isi_bool_str, E3.isi_bool_list, E3.isi_bool_tuple, E3.isi_int_none, E3.isi_int_bool, E3.isi_int_int, E3.isi_int_str, E3.isi_int_list, E3.isi_int_tuple, E3.isi_str_none, E3.isi_str_bool, E3.isi_str_int, E3.isi_str_str, E3.isi_str_list, E3.isi_str_tuple, E3.isi_list_none, E3.isi_list_bool, E3.isi_list_int, E3.isi_list_str, E3.isi_list_list, E3.isi_list_tuple, E3.isi_tuple_none, E3.isi_tuple_bool, E3.isi_tuple_int, E3.isi_tuple_str, E3.isi_tuple_list, E3.isi_tuple_tuple, E3.isN_none, E3.ntN_none, E3.isN_bool, E3.ntN_bool, E3.isN_int, E3.ntN_int, E3.isN_str, E3.ntN_str, E3.isN_list, E3.ntN_list, E3.isN_tuple, E3.ntN_tuple, E3.len_list, E3.len_tup, E3.seq_list, E3.seq_tup, E3.tup_list, E3.tup_tup, E3.lst_list, E3.lst_tup, xM, xV, xB, xTB, x2, xAnd, xNil, xCons, xTup, xLst, xCall, xSl, xPotd, ownXd, potKd, ePotE, dropKV, fnPd, startPd, endPd, slL, eSlL, xPot, ownX, potK, XR.bind_ok, XR.bind_exc, XR.bind_stuck, XR.of_ok, XR.of_exc, XR.of_stuck, thenX_ok, thenX_exc, thenX_stuck, qSet, qRet, qIf, qAsg, qForR, qFor, H70.fR_i, H70.fR_b, H70.fR_ii, H70.fR_c, fnP, startP, endP, fnL, startL, endL, xPotL, xLast, fnN, endN, E3.ix_lst0, Int.cast_ofNat_Int, *])
def ringL : List Pt := [(0, 1), (1, 1), (1, 0), (1, -1), (0, -1), (-1, -1), (-1, 0), (-1, 1)]
def rg (c : Pt) (i : Nat) : Pt := plusC c (ringL.getD i (0, 0))
end H70
namespace H70
open PySem PySem.Spec PyProof.Rows L2 E3 
local macro_rules | `(tactic| walk_at "ev") => `(tactic| try simp (disch := first | decide | decide +kernel | omega) only [fnD, xOr, xNot, startF, endF, sSeq, sAsg, sSet, sSetV, sAsgV, sIf, sRet, sNew, sNewV, sMut, sMutV, sFor, sForR, sFreeze, sNil, sExpr, optK, thenR_ok, thenR_exc, thenR_stuck,
  view, mask, E3.eVar_zero, E3.eVar_succ, eC, e1, e2, eCall, eTup, eLst, eSl, oNone, oSome, eAnd, eOr, eIf, E3.tAnd, E3.tOr, E3.tNot, E3.tB, asB, notD, aNil, aCons, Res.bind_ok, Res.bind_exc, Res.bind_stuck,
  gT, gsCons, gsNil, gN, tupD, lstD, Slot.dat, Slot.shd, List.length_cons, List.length_nil, List.map_cons, List.map_nil, List.replicate, List.append_nil, List.cons_append, List.nil_append, Option.map_some, Option.map_none, Option.bind_some, Option.bind_none,
  List.getElem?_cons_zero, List.getElem?_cons_succ, List.set_cons_zero, List.set_cons_succ, Nat.reduceAdd, Nat.reduceSub, Nat.reduceEqDiff, if_true, if_false, ite_true, ite_false, reduceIte, decide_true, decide_false, reduceCtorEq, Bool.not_true, Bool.not_false, Bool.false_eq_true, Bool.true_eq_false, Bool.or_true, Bool.true_or, Bool.false_or, Bool.or_false, Bool.and_true, Bool.and_false, Bool.true_and, Bool.false_and, addI, subI, ltI, leI, gtI, geI, eqI, neI, E3.negI, ix_cell0, ix_cell1, E3.le0, E3.le1, E3.le2, E3.le3, E3.le4, E3.le5, E3.le6, beq_self_eq_true, Int.reduceBEq, E3.divmodI, E3.modI, E3.fdivI, E3.powL, E3.mulLL, E3.isi_bool_none, E3.isi_bool_bool, E3.isi_bool_int, E3.isi_bool_str, E3.isi_bool_list, E3.isi_bool_tuple, E3.isi_int_none, E3.isi_int_bool, E3.isi_int_int, E3.isi_int_str, E3.isi_int_list, E3.isi_int_tuple, E3.isi_str_none, E3.isi_str_bool, E3.isi_str_int, E3.isi_str_str, E3.isi_str_list, E3.isi_str_tuple, E3.isi_list_none, E3.isi_list_bool, E3.isi_list_int, E3.isi_list_str, E3.isi_list_list, E3.isi_list_tuple, E3.isi_tuple_none, E3.isi_tuple_bool, E3.isi_tuple_int, E3.isi_tuple_str, E3.isi_tuple_list, E3.isi_tuple_tuple, E3.isN_none, E3.ntN_none, E3.isN_bool, E3.ntN_bool, E3.isN_int, E3.ntN_int, E3.isN_str, E3.ntN_str, E3.isN_list, E3.ntN_list, E3.isN_tuple, E3.ntN_tuple, E3.len_list, E3.len_tup, E3.seq_list, E3.seq_tup, E3.tup_list, E3.tup_tup, E3.lst_list, E3.lst_tup, xM, xV, xB, xTB, x2, xAnd, xNil, xCons, xTup, xLst, xCall, xSl, xPotd, ownXd, potKd, ePotE, dropKV, fnPd, startPd, endPd, slL, eSlL, xPot, ownX, potK, XR.bind_ok, XR.bind_exc, XR.bind_stuck, XR.of_ok, XR.of_exc, XR.of_stuck, thenX_ok, thenX_exc, thenX_stuck, qSet, qRet, qIf, qAsg, qForR, qFor, H70.fR_i, H70.fR_b, H70.fR_ii, H70.fR_c, fnP, startP, endP, fnL, startL, endL, xPotL, xLast, fnN, endN, E3.ix_lst0, Int.cast_ofNat_Int])
local macro_rules | `(tactic| walk_at "evs") => `(tactic| try simp (disch := first | decide | decide +kernel | omega) only [fnD, xOr, xNot, startF, endF, sSeq, sAsg, sSet, sSetV, sAsgV, sIf, sRet, sNew, sNewV, sMut, sMutV, sFor, sForR, sFreeze, sNil, sExpr, optK, thenR_ok, thenR_exc, thenR_stuck,
  view, mask, E3.eVar_zero, E3.eVar_succ, eC, e1, e2, eCall, eTup, eLst, eSl, oNone, oSome, eAnd, eOr, eIf, E3.tAnd, E3.tOr, E3.tNot, E3.tB, asB, notD, aNil, aCons, Res.bind_ok, Res.bind_exc, Res.bind_stuck,
  gT, gsCons, gsNil, gN, tupD, lstD, Slot.dat, Slot.shd, List.length_cons, List.length_nil, List.map_cons, List.map_nil, List.replicate, List.append_nil, List.cons_append, List.nil_append, Option.map_some, Option.map_none, Option.bind_some, Option.bind_none,
  List.getElem?_cons_zero, List.getElem?_cons_succ, List.set_cons_zero, List.set_cons_succ, Nat.reduceAdd, Nat.reduceSub, Nat.reduceEqDiff, if_true, if_false, ite_true, ite_false, reduceIte, decide_true, decide_false, reduceCtorEq, Bool.not_true, Bool.not_false, Bool.false_eq_true, Bool.true_eq_false, Bool.or_true, Bool.true_or, Bool.false_or, Bool.or_false, Bool.and_true, Bool.and_false, Bool.true_and, Bool.false_and, addI, subI, ltI, leI, gtI, geI, eqI, neI, E3.negI, ix_cell0, ix_cell1, E3.le0, E3.le1, E3.le2, E3.le3, E3.le4, E3.le5, E3.le6, beq_self_eq_true, Int.reduceBEq, E3.divmodI, E3.modI, E3.fdivI, E3.powL, E3.mulLL, E3.isi_bool_none, E3.isi_bool_bool, E3.isi_bool_int, E3.isi_bool_str, E3.isi_bool_list, E3.isi_bool_tuple, E3.isi_int_none, E3.isi_int_bool, E3.isi_int_int, E3.isi_int_str, E3.isi_int_list, E3.isi_int_tuple, E3.isi_str_none, E3.isi_str_bool, E3.isi_str_int, E3.isi_str_str, E3.isi_str_list, E3.isi_str_tuple, E3.isi_list_none, E3.isi_list_bool, E3.isi_list_int, E3.isi_list_str, E3.isi_list_list, E3.isi_list_tuple, E3.isi_tuple_none, E3.isi_tuple_bool, E3.isi_tuple_int, E3.isi_tuple_str, E3.isi_tuple_list, E3.isi_tuple_tuple, E3.isN_none, E3.ntN_none, E3.isN_bool, E3.ntN_bool, E3.isN_int, E3.ntN_int, E3.isN_str, E3.ntN_str, E3.isN_list, E3.ntN_list, E3.isN_tuple, E3.ntN_tuple, E3.len_list, E3.len_tup, E3.seq_list, E3.seq_tup, E3.tup_list, E3.tup_tup, E3.lst_list, E3.lst_tup, xM, xV, xB, xTB, x2, xAnd, xNil, xCons, xTup, xLst, xCall, xSl, xPotd, ownXd, potKd, ePotE, dropKV, fnPd, startPd, endPd, slL, eSlL, xPot, ownX, potK, XR.bind_ok, XR.bind_exc, XR.bind_stuck, XR.of_ok, XR.of_exc, XR.of_stuck, thenX_ok, thenX_exc, thenX_stuck, qSet, qRet, qIf, qAsg, qForR, qFor, H70.fR_i, H70.fR_b, H70.fR_ii, H70.fR_c, fnP, startP, endP, fnL, startL, endL, xPotL, xLast, fnN, endN, E3.ix_lst0, Int.cast_ofNat_Int, *])
def firsts (r : Nat → Nat → Bool) (k : Nat) : List Nat := (List.range k).filter fun q => !(List.range q).any fun p => r p q
def c2 (a : Bool) : Nat := 1 + (!a).toNat
def c3 (a b c : Bool) : Nat := c2 a + (!(b || c)).toNat
def c4 (a b c d e f : Bool) : Nat := c3 a b c + (!(d || e || f)).toNat
theorem len1 (r : Nat → Nat → Bool) : (firsts r 1).length = 1 := rfl
theorem an {a b : Bool} (h1 : a = true) (h2 : b = true) : (a && b) = true := by rw [h1, h2]; rfl
end H70
namespace H70
open PySem PySem.Spec PyProof.Rows L2 E3 
local macro_rules | `(tactic| walk_at "ev") => `(tactic| try simp (disch := first | decide | decide +kernel | omega) only [fnD, xOr, xNot, startF, endF, sSeq, sAsg, sSet, sSetV, sAsgV, sIf, sRet, sNew, sNewV, sMut, sMutV, sFor, sForR, sFreeze, sNil, sExpr, optK, thenR_ok, thenR_exc, thenR_stuck,
  view, mask, E3.eVar_zero, E3.eVar_succ, eC, e1, e2, eCall, eTup, eLst, eSl, oNone, oSome, eAnd, eOr, eIf, E3.tAnd, E3.tOr, E3.tNot, E3.tB, asB, notD, aNil, aCons, Res.bind_ok, Res.bind_exc, Res.bind_stuck,
  gT, gsCons, gsNil, gN, tupD, lstD, Slot.dat, Slot.shd, List.length_cons, List.length_nil, List.map_cons, List.map_nil, List.replicate, List.append_nil, List.cons_append, List.nil_append, Option.map_some, Option.map_none, Option.bind_some, Option.bind_none,
  List.getElem?_cons_zero, List.getElem?_cons_succ, List.set_cons_zero, List.set_cons_succ, Nat.reduceAdd, Nat.reduceSub, Nat.reduceEqDiff, if_true, if_false, ite_true, ite_false, reduceIte, decide_true, decide_false, reduceCtorEq, Bool.not_true, Bool.not_false, Bool.false_eq_true, Bool.true_eq_false, Bool.or_true, Bool.true_or, Bool.false_or, Bool.or_false, Bool.and_true, Bool.and_false, Bool.true_and, Bool.false_and, addI, subI, ltI, leI, gtI, geI, eqI, neI, E3.negI, ix_cell0, ix_cell1, E3.le0, E3.le1, E3.le2, E3.le3, E3.le4, E3.le5, E3.le6, beq_self_eq_true, Int.reduceBEq, E3.divmodI, E3.modI, E3.fdivI, E3.powL, E3.mulLL, E3.isi_bool_none, E3.isi_bool_bool, E3.isi_bool_int, E3.isi_bool_str, E3.isi_bool_list, E3.isi_bool_tuple, E3.isi_int_none, E3.isi_int_bool, E3.isi_int_int, E3.isi_int_str, E3.isi_int_list, E3.isi_int_tuple, E3.isi_str_none, E3.isi_str_bool, E3.isi_str_int, E3.isi_str_str, E3.isi_str_list, E3.isi_str_tuple, E3.isi_list_none, E3.isi_list_bool, E3.isi_list_int, E3.isi_list_str, E3.isi_list_list, E3.isi_list_tuple, E3.isi_tuple_none, E3.isi_tuple_bool, E3.isi_tuple_int, E3.isi_tuple_str, E3.isi_tuple_list, E3.isi_tuple_tuple, E3.isN_none, E3.ntN_none, E3.isN_bool, E3.ntN_bool, E3.isN_int, E3.ntN_int, E3.isN_str, E3.ntN_str, E3.isN_list, E3.ntN_list, E3.isN_tuple, E3.ntN_tuple, E3.len_list, E3.len_tup, E3.seq_list, E3.seq_tup, E3.tup_list, E3.tup_tup, E3.lst_list, E3.lst_tup, xM, xV, xB, xTB, x2, xAnd, xNil, xCons, xTup, xLst, xCall, xSl, xPotd, ownXd, potKd, ePotE, dropKV, fnPd, startPd, endPd, slL, eSlL, xPot, ownX, potK, XR.bind_ok, XR.bind_exc, XR.bind_stuck, XR.of_ok, XR.of_exc, XR.of_stuck, thenX_ok, thenX_exc, thenX_stuck, qSet, qRet, qIf, qAsg, qForR, qFor, H70.fR_i, H70.fR_b, H70.fR_ii, H70.fR_c, fnP, startP, endP, fnL, startL, endL, xPotL, xLast, fnN, endN, E3.ix_lst0, Int.cast_ofNat_Int])
local macro_rules | `(tactic| walk_at "evs") => `(tactic| try simp (disch := first | decide | decide +kernel | omega) only [fnD, xOr, xNot, startF, endF, sSeq, sAsg, sSet, sSetV, sAsgV, sIf, sRet, sNew, sNewV, sMut, sMutV, sFor, sForR, sFreeze, sNil, sExpr, optK, thenR_ok, thenR_exc, thenR_stuck,
  view, mask, E3.eVar_zero, E3.eVar_succ, eC, e1, e2, eCall, eTup, eLst, eSl, oNone, oSome, eAnd, eOr, eIf, E3.tAnd, E3.tOr, E3.tNot, E3.tB, asB, notD, aNil, aCons, Res.bind_ok, Res.bind_exc, Res.bind_stuck,
  gT, gsCons, gsNil, gN, tupD, lstD, Slot.dat, Slot.shd, List.length_cons, List.length_nil, List.map_cons, List.map_nil, List.replicate, List.append_nil, List.cons_append, List.nil_append, Option.map_some, Option.map_none, Option.bind_some, Option.bind_none,
  List.getElem?_cons_zero, List.getElem?_cons_succ, List.set_cons_zero, List.set_cons_succ, Nat.reduceAdd, Nat.reduceSub, Nat.reduceEqDiff, if_true, if_false, ite_true, ite_false, reduceIte, decide_true, decide_false, reduceCtorEq, Bool.not_true, Bool.not_false, Bool.false_eq_true, Bool.true_eq_false, Bool.or_true, Bool.true_or, Bool.false_or, Bool.or_false, Bool.and_true, Bool.and_false, Bool.true_and, Bool.false_and, addI, subI, ltI, leI, gtI, geI, eqI, neI, E3.negI, ix_cell0, ix_cell1, E3.le0, E3.le1, E3.le2, E3.le3, E3.le4, E3.le5, E3.le6, beq_self_eq_true, Int.reduceBEq, E3.divmodI, E3.modI, E3.fdivI, E3.powL, E3.mulLL, E3.isi_bool_none, E3.isi_bool_bool, E3.isi_bool_int, E3.isi_bool_str, E3.isi_bool_list, E3.isi_bool_tuple, E3.isi_int_none, E3.isi_int_bool, E3.isi_int_int, E3.isi_int_str, E3.isi_int_list, E3.isi_int_tuple, E3.isi_str_none, E3.isi_str_bool, E3.isi_str_int, E3.isi_str_str, E3.isi_str_list, E3.isi_str_tuple, E3.isi_list_none, E3.isi_list_bool, E3.isi_list_int, E3.isi_list_str, E3.isi_list_list, E3.isi_list_tuple, E3.isi_tuple_none, E3.isi_tuple_bool, E3.isi_tuple_int, E3.isi_tuple_str, E3.isi_tuple_list, E3.isi_tuple_tuple, E3.isN_none, E3.ntN_none, E3.isN_bool, E3.ntN_bool, E3.isN_int, E3.ntN_int, E3.isN_str, E3.ntN_str, E3.isN_list, E3.ntN_list, E3.isN_tuple, E3.ntN_tuple, E3.len_list, E3.len_tup, E3.seq_list, E3.seq_tup, E3.tup_list, E3.tup_tup, E3.lst_list, E3.lst_tup, xM, xV, xB, xTB, x2, xAnd, xNil, xCons, xTup, xLst, xCall, xSl, xPotd, ownXd, potKd, ePotE, dropKV, fnPd, startPd, endPd, slL, eSlL, xPot, ownX, potK, XR.bind_ok, XR.bind_exc, XR.bind_stuck, XR.of_ok, XR.of_exc, XR.of_stuck, thenX_ok, thenX_exc, thenX_stuck, qSet, qRet, qIf, qAsg, qForR, qFor, H70.fR_i, H70.fR_b, H70.fR_ii, H70.fR_c, fnP, startP, endP, fnL, startL, endL, xPotL, xLast, fnN, endN, E3.ix_lst0, Int.cast_ofNat_Int, *])
end H70
namespace H70
open PySem PySem.Spec PyProof.Rows L2 E3 
local macro_rules | `(tactic| walk_at "ev") => `(tactic| try simp (disch := first | decide | decide +kernel | omega) only [fnD, xOr, xNot, startF, endF, sSeq, sAsg, sSet, sSetV, sAsgV, sIf, sRet, sNew, sNewV, sMut, sMutV, sFor, sForR, sFreeze, sNil, sExpr, optK, thenR_ok, thenR_exc, thenR_stuck,
  view, mask, E3.eVar_zero, E3.eVar_succ, eC, e1, e2, eCall, eTup, eLst, eSl, oNone, oSome, eAnd, eOr, eIf, E3.tAnd, E3.tOr, E3.tNot, E3.tB, asB, notD, aNil, aCons, Res.bind_ok, Res.bind_exc, Res.bind_stuck,
  gT, gsCons, gsNil, gN, tupD, lstD, Slot.dat, Slot.shd, List.length_cons, List.length_nil, List.map_cons, List.map_nil, List.replicate, List.append_nil, List.cons_append, List.nil_append, Option.map_some, Option.map_none, Option.bind_some, Option.bind_none,
  List.getElem?_cons_zero, List.getElem?_cons_succ, List.set_cons_zero, List.set_cons_succ, Nat.reduceAdd, Nat.reduceSub, Nat.reduceEqDiff, if_true, if_false, ite_true, ite_false, reduceIte, decide_true, decide_false, reduceCtorEq, Bool.not_true, Bool.not_false, Bool.false_eq_true, Bool.true_eq_false, Bool.or_true, Bool.true_or, Bool.false_or, Bool.or_false, Bool.and_true, Bool.and_false, Bool.true_and, Bool.false_and, addI, subI, ltI, leI, gtI, geI, eqI, neI, E3.negI, ix_cell0, ix_cell1, E3.le0, E3.le1, E3.le2, E3.le3, E3.le4, E3.le5, E3.le6, beq_self_eq_true, Int.reduceBEq, E3.divmodI, E3.modI, E3.fdivI, E3.powL, E3.mulLL, E3.isi_bool_none, E3.isi_bool_bool, E3.isi_bool_int, E3.isi_bool_str, E3.isi_bool_list, E3.isi_bool_tuple, E3.isi_int_none, E3.isi_int_bool, E3.isi_int_int, E3.isi_int_str, E3.isi_int_list, E3.isi_int_tuple, E3.isi_str_none, E3.isi_str_bool, E3.isi_str_int, E3.isi_str_str, E3.isi_str_list, E3.isi_str_tuple, E3.isi_list_none, E3.isi_list_bool, E3.isi_list_int, E3.isi_list_str, E3.isi_list_list, E3.isi_list_tuple, E3.isi_tuple_none, E3.isi_tuple_bool, E3.isi_tuple_int, E3.isi_tuple_str, E3.isi_tuple_list, E3.isi_tuple_tuple, E3.isN_none, E3.ntN_none, E3.isN_bool, E3.ntN_bool, E3.isN_int, E3.ntN_int, E3.isN_str, E3.ntN_str, E3.isN_list, E3.ntN_list, E3.isN_tuple, E3.ntN_tuple, E3.len_list, E3.len_tup, E3.seq_list, E3.seq_tup, E3.tup_list, E3.tup_tup, E3.lst_list, E3.lst_tup, xM, xV, xB, xTB, x2, xAnd, xNil, xCons, xTup, xLst, xCall, xSl, xPotd, ownXd, potKd, ePotE, dropKV, fnPd, startPd, endPd, slL, eSlL, xPot, ownX, potK, XR.bind_ok, XR.bind_exc, XR.bind_stuck, XR.of_ok, XR.of_exc, XR.of_stuck, thenX_ok, thenX_exc, thenX_stuck, qSet, qRet, qIf, qAsg, qForR, qFor, H70.fR_i, H70.fR_b, H70.fR_ii, H70.fR_c, fnP, startP, endP, fnL, startL, endL, xPotL, xLast, fnN, endN, E3.ix_lst0, Int.cast_ofNat_Int])
local macro_rules | `(tactic| walk_at "evs") => `(tactic| try simp (disch := first | decide | decide +kernel | omega) only [fnD, xOr, xNot, startF, endF, sSeq, sAsg, sSet, sSetV, sAsgV, sIf, sRet, sNew, sNewV, sMut, sMutV, sFor, sForR, sFreeze, sNil, sExpr, optK, thenR_ok, thenR_exc, thenR_stuck,
  view, mask, E3.eVar_zero, E3.eVar_succ, eC, e1, e2, eCall, eTup, eLst, eSl, oNone, oSome, eAnd, eOr, eIf, E3.tAnd, E3.tOr, E3.tNot, E3.tB, asB, notD, aNil, aCons, Res.bind_ok, Res.bind_exc, Res.bind_stuck,
  gT, gsCons, gsNil, gN, tupD, lstD, Slot.dat, Slot.shd, List.length_cons, List.length_nil, List.map_cons, List.map_nil, List.replicate, List.append_nil, List.cons_append, List.nil_append, Option.map_some, Option.map_none, Option.bind_some, Option.bind_none,
  List.getElem?_cons_zero, List.getElem?_cons_succ, List.set_cons_zero, List.set_cons_succ, Nat.reduceAdd, Nat.reduceSub, Nat.reduceEqDiff, if_true, if_false, ite_true, ite_false, reduceIte, decide_true, decide_false, reduceCtorEq, Bool.not_true, Bool.not_false, Bool.false_eq_true, Bool.true_eq_false, Bool.or_true, Bool.true_or, Bool.false_or, Bool.or_false, Bool.and_true, Bool.and_false, Bool.true_and, Bool.false_and, addI, subI, ltI, leI, gtI, geI, eqI, neI, E3.negI, ix_cell0, ix_cell1, E3.le0, E3.le1, E3.le2, E3.le3, E3.le4, E3.le5, E3.le6, beq_self_eq_true, Int.reduceBEq, E3.divmodI, E3.modI, E3.fdivI, E3.powL, E3.mulLL, E3.isi_bool_none, E3.isi_bool_bool, E3.isi_bool_int, E3.isi_bool_str, E3.isi_bool_list, E3.isi_bool_tuple, E3.isi_int_none, E3.isi_int_bool, E3.isi_int_int, E3.isi_int_str, E3.isi_int_list, E3.isi_int_tuple, E3.isi_str_none, E3.isi_str_bool, E3.isi_str_int, E3.isi_str_str, E3.isi_str_list, E3.isi_str_tuple, E3.isi_list_none, E3.isi_list_bool, E3.isi_list_int, E3.isi_list_str, E3.isi_list_list, E3.isi_list_tuple, E3.isi_tuple_none, E3.isi_tuple_bool, E3.isi_tuple_int, E3.isi_tuple_str, E3.isi_tuple_list, E3.isi_tuple_tuple, E3.isN_none, E3.ntN_none, E3.isN_bool, E3.ntN_bool, E3.isN_int, E3.ntN_int, E3.isN_str, E3.ntN_str, E3.isN_list, E3.ntN_list, E3.isN_tuple, E3.ntN_tuple, E3.len_list, E3.len_tup, E3.seq_list, E3.seq_tup, E3.tup_list, E3.tup_tup, E3.lst_list, E3.lst_tup, xM, xV, xB, xTB, x2, xAnd, xNil, xCons, xTup, xLst, xCall, xSl, xPotd, ownXd, potKd, ePotE, dropKV, fnPd, startPd, endPd, slL, eSlL, xPot, ownX, potK, XR.bind_ok, XR.bind_exc, XR.bind_stuck, XR.of_ok, XR.of_exc, XR.of_stuck, thenX_ok, thenX_exc, thenX_stuck, qSet, qRet, qIf, qAsg, qForR, qFor, H70.fR_i, H70.fR_b, H70.fR_ii, H70.fR_c, fnP, startP, endP, fnL, startL, endL, xPotL, xLast, fnN, endN, E3.ix_lst0, Int.cast_ofNat_Int, *])
end H70
namespace H70
open PySem PySem.Spec PyProof.Rows L2 E3 
local macro_rules | `(tactic| walk_at "ev") => `(tactic| try simp (disch := first | decide | decide +kernel | omega) only [fnD, xOr, xNot, startF, endF, sSeq, sAsg, sSet, sSetV, sAsgV, sIf, sRet, sNew, sNewV, sMut, sMutV, sFor, sForR, sFreeze, sNil, sExpr, optK, thenR_ok, thenR_exc, thenR_stuck,
  view, mask, E3.eVar_zero, E3.eVar_succ, eC, e1, e2, eCall, eTup, eLst, eSl, oNone, oSome, eAnd, eOr, eIf, E3.tAnd, E3.tOr, E3.tNot, E3.tB, asB, notD, aNil, aCons, Res.bind_ok, Res.bind_exc, Res.bind_stuck,
  gT, gsCons, gsNil, gN, tupD, lstD, Slot.dat, Slot.shd, List.length_cons, List.length_nil, List.map_cons, List.map_nil, List.replicate, List.append_nil, List.cons_append, List.nil_append, Option.map_some, Option.map_none, Option.bind_some, Option.bind_none,
  List.getElem?_cons_zero, List.getElem?_cons_succ, List.set_cons_zero, List.set_cons_succ, Nat.reduceAdd, Nat.reduceSub, Nat.reduceEqDiff, if_true, if_false, ite_true, ite_false, reduceIte, decide_true, decide_false, reduceCtorEq, Bool.not_true, Bool.not_false, Bool.false_eq_true, Bool.true_eq_false, Bool.or_true, Bool.true_or, Bool.false_or, Bool.or_false, Bool.and_true, Bool.and_false, Bool.true_and, Bool.false_and, addI, subI, ltI, leI, gtI, geI, eqI, neI, E3.negI, ix_cell0, ix_cell1, E3.le0, E3.le1, E3.le2, E3.le3, E3.le4, E3.le5, E3.le6, beq_self_eq_true, Int.reduceBEq, E3.divmodI, E3.modI, E3.fdivI, E3.powL, E3.mulLL, E3.isi_bool_none, E3.isi_bool_bool, E3.isi_bool_int, E3.isi_bool_str, E3.isi_bool_list, E3.isi_bool_tuple, E3.isi_int_none, E3.isi_int_bool, E3.isi_int_int, E3.isi_int_str, E3.isi_int_list, E3.isi_int_tuple, E3.isi_str_none, E3.isi_str_bool, E3.isi_str_int, E3.isi_str_str, E3.isi_str_list, E3.isi_str_tuple, E3.isi_list_none, E3.isi_list_bool, E3.isi_list_int, E3.isi_list_str, E3.isi_list_list, E3.isi_list_tuple, E3.isi_tuple_none, E3.isi_tuple_bool, E3.isi_tuple_int, E3.isi_tuple_str, E3.isi_tuple_list, E3.isi_tuple_tuple, E3.isN_none, E3.ntN_none, E3.isN_bool, E3.ntN_bool, E3.isN_int, E3.ntN_int, E3.isN_str, E3.ntN_str, E3.isN_list, E3.ntN_list, E3.isN_tuple, E3.ntN_tuple, E3.len_list, E3.len_tup, E3.seq_list, E3.seq_tup, E3.tup_list, E3.tup_tup, E3.lst_list, E3.lst_tup, xM, xV, xB, xTB, x2, xAnd, xNil, xCons, xTup, xLst, xCall, xSl, xPotd, ownXd, potKd, ePotE, dropKV, fnPd, startPd, endPd, slL, eSlL, xPot, ownX, potK, XR.bind_ok, XR.bind_exc, XR.bind_stuck, XR.of_ok, XR.of_exc, XR.of_stuck, thenX_ok, thenX_exc, thenX_stuck, qSet, qRet, qIf, qAsg, qForR, qFor, H70.fR_i, H70.fR_b, H70.fR_ii, H70.fR_c, fnP, startP, endP, fnL, startL, endL, xPotL, xLast, fnN, endN, E3.ix_lst0, Int.cast_ofNat_Int])
local macro_rules | `(tactic| walk_at "evs") => `(tactic| try simp (disch := first | decide | decide +kernel | omega) only [fnD, xOr, xNot, startF, endF, sSeq, sAsg, sSet, sSetV, sAsgV, sIf, sRet, sNew, sNewV, sMut, sMutV, sFor, sForR, sFreeze, sNil, sExpr, optK, thenR_ok, thenR_exc, thenR_stuck,
  view, mask, E3.eVar_zero, E3.eVar_succ, eC, e1, e2, eCall, eTup, eLst, eSl, oNone, oSome, eAnd, eOr, eIf, E3.tAnd, E3.tOr, E3.tNot, E3.tB, asB, notD, aNil, aCons, Res.bind_ok, Res.bind_exc, Res.bind_stuck,
  gT, gsCons, gsNil, gN, tupD, lstD, Slot.dat, Slot.shd, List.length_cons, List.length_nil, List.map_cons, List.map_nil, List.replicate, List.append_nil, List.cons_append, List.nil_append, Option.map_some, Option.map_none, Option.bind_some, Option.bind_none,
  List.getElem?_cons_zero, List.getElem?_cons_succ, List.set_cons_zero, List.set_cons_succ, Nat.reduceAdd, Nat.reduceSub, Nat.reduceEqDiff, if_true, if_false, ite_true, ite_false, reduceIte, decide_true, decide_false, reduceCtorEq, Bool.not_true, Bool.not_false, Bool.false_eq_true, Bool.true_eq_false, Bool.or_true, Bool.true_or, Bool.false_or, Bool.or_false, Bool.and_true, Bool.and_false, Bool.true_and, Bool.false_and, addI, subI, ltI, leI, gtI, geI, eqI, neI, E3.negI, ix_cell0, ix_cell1, E3.le0, E3.le1, E3.le2, E3.le3, E3.le4, E3.le5, E3.le6, beq_self_eq_true, Int.reduceBEq, E3.divmodI, E3.modI, E3.fdivI, E3.powL, E3.mulLL, E3.isi_bool_none, E3.isi_bool_bool, E3.isi_bool_int, E3.isi_bool_str, E3.isi_bool_list, E3.isi_bool_tuple, E3.isi_int_none, E3.isi_int_bool, E3.isi_int_int, E3.isi_int_str, E3.isi_int_list, E3.isi_int_tuple, E3.isi_str_none, E3.isi_str_bool, E3.isi_str_int, E3.isi_str_str, E3.isi_str_list, E3.isi_str_tuple, E3.isi_list_none, E3.isi_list_bool, E3.isi_list_int, E3.isi_list_str, E3.isi_list_list, E3.isi_list_tuple, E3.isi_tuple_none, E3.isi_tuple_bool, E3.isi_tuple_int, E3.isi_tuple_str, E3.isi_tuple_list, E3.isi_tuple_tuple, E3.isN_none, E3.ntN_none, E3.isN_bool, E3.ntN_bool, E3.isN_int, E3.ntN_int, E3.isN_str, E3.ntN_str, E3.isN_list, E3.ntN_list, E3.isN_tuple, E3.ntN_tuple, E3.len_list, E3.len_tup, E3.seq_list, E3.seq_tup, E3.tup_list, E3.tup_tup, E3.lst_list, E3.lst_tup, xM, xV, xB, xTB, x2, xAnd, xNil, xCons, xTup, xLst, xCall, xSl, xPotd, ownXd, potKd, ePotE, dropKV, fnPd, startPd, endPd, slL, eSlL, xPot, ownX, potK, XR.bind_ok, XR.bind_exc, XR.bind_stuck, XR.of_ok, XR.of_exc, XR.of_stuck, thenX_ok, thenX_exc, thenX_stuck, qSet, qRet, qIf, qAsg, qForR, qFor, H70.fR_i, H70.fR_b, H70.fR_ii, H70.fR_c, fnP, startP, endP, fnL, startL, endL, xPotL, xLast, fnN, endN, E3.ix_lst0, Int.cast_ofNat_Int, *])
end H70
namespace H70
open PySem PySem.Spec PyProof.Rows L2 E3 
local macro_rules | `(tactic| walk_at "ev") => `(tactic| try simp (disch := first | decide | decide +kernel | omega) only [fnD, xOr, xNot, startF, endF, sSeq, sAsg, sSet, sSetV, sAsgV, sIf, sRet, sNew, sNewV, sMut, sMutV, sFor, sForR, sFreeze, sNil, sExpr, optK, thenR_ok, thenR_exc, thenR_stuck,
  view, mask, E3.eVar_zero, E3.eVar_succ, eC, e1, e2, eCall, eTup, eLst, eSl, oNone, oSome, eAnd, eOr, eIf, E3.tAnd, E3.tOr, E3.tNot, E3.tB, asB, notD, aNil, aCons, Res.bind_ok, Res.bind_exc, Res.bind_stuck,
  gT, gsCons, gsNil, gN, tupD, lstD, Slot.dat, Slot.shd, List.length_cons, List.length_nil, List.map_cons, List.map_nil, List.replicate, List.append_nil, List.cons_append, List.nil_append, Option.map_some, Option.map_none, Option.bind_some, Option.bind_none,
  List.getElem?_cons_zero, List.getElem?_cons_succ, List.set_cons_zero, List.set_cons_succ, Nat.reduceAdd, Nat.reduceSub, Nat.reduceEqDiff, if_true, if_false, ite_true, ite_false, reduceIte, decide_true, decide_false, reduceCtorEq, Bool.not_true, Bool.not_false, Bool.false_eq_true, Bool.true_eq_false, Bool.or_true, Bool.true_or, Bool.false_or, Bool.or_false, Bool.and_true, Bool.and_false, Bool.true_and, Bool.false_and, addI, subI, ltI, leI, gtI, geI, eqI, neI, E3.negI, ix_cell0, ix_cell1, E3.le0, E3.le1, E3.le2, E3.le3, E3.le4, E3.le5, E3.le6, beq_self_eq_true, Int.reduceBEq, E3.divmodI, E3.modI, E3.fdivI, E3.powL, E3.mulLL, E3.isi_bool_none, E3.isi_bool_bool, E3.isi_bool_int, E3.isi_bool_str, E3.isi_bool_list, E3.isi_bool_tuple, E3.isi_int_none, E3.isi_int_bool, E3.isi_int_int, E3.isi_int_str, E3.isi_int_list, E3.isi_int_tuple, E3.isi_str_none, E3.isi_str_bool, E3.isi_str_int, E3.isi_str_str, E3.isi_str_list, E3.isi_str_tuple, E3.isi_list_none, E3.isi_list_bool, E3.isi_list_int, E3.isi_list_str, E3.isi_list_list, E3.isi_list_tuple, E3.isi_tuple_none, E3.isi_tuple_bool, E3.isi_tuple_int, E3.isi_tuple_str, E3.isi_tuple_list, E3.isi_tuple_tuple, E3.isN_none, E3.ntN_none, E3.isN_bool, E3.ntN_bool, E3.isN_int, E3.ntN_int, E3.isN_str, E3.ntN_str, E3.isN_list, E3.ntN_list, E3.isN_tuple, E3.ntN_tuple, E3.len_list, E3.len_tup, E3.seq_list, E3.seq_tup, E3.tup_list, E3.tup_tup, E3.lst_list, E3.lst_tup, xM, xV, xB, xTB, x2, xAnd, xNil, xCons, xTup, xLst, xCall, xSl, xPotd, ownXd, potKd, ePotE, dropKV, fnPd, startPd, endPd, slL, eSlL, xPot, ownX, potK, XR.bind_ok, XR.bind_exc, XR.bind_stuck, XR.of_ok, XR.of_exc, XR.of_stuck, thenX_ok, thenX_exc, thenX_stuck, qSet, qRet, qIf, qAsg, qForR, qFor, H70.fR_i, H70.fR_b, H70.fR_ii, H70.fR_c, fnP, startP, endP, fnL, startL, endL, xPotL, xLast, fnN, endN, E3.ix_lst0, Int.cast_ofNat_Int])
local macro_rules | `(tactic| walk_at "evs") => `(tactic| try simp (disch := first | decide | decide +kernel | omega) only [fnD, xOr, xNot, startF, endF, sSeq, sAsg, sSet, sSetV, sAsgV, sIf, sRet, sNew, sNewV, sMut, sMutV, sFor, sForR, sFreeze, sNil, sExpr, optK, thenR_ok, thenR_exc, thenR_stuck,
  view, mask, E3.eVar_zero, E3.eVar_succ, eC, e1, e2, eCall, eTup, eLst, eSl, oNone, oSome, eAnd, eOr, eIf, E3.tAnd, E3.tOr, E3.tNot, E3.tB, asB, notD, aNil, aCons, Res.bind_ok, Res.bind_exc, Res.bind_stuck,
  gT, gsCons, gsNil, gN, tupD, lstD, Slot.dat, Slot.shd, List.length_cons, List.length_nil, List.map_cons, List.map_nil, List.replicate, List.append_nil, List.cons_append, List.nil_append, Option.map_some, Option.map_none, Option.bind_some, Option.bind_none,
  List.getElem?_cons_zero, List.getElem?_cons_succ, List.set_cons_zero, List.set_cons_succ, Nat.reduceAdd, Nat.reduceSub, Nat.reduceEqDiff, if_true, if_false, ite_true, ite_false, reduceIte, decide_true, decide_false, reduceCtorEq, Bool.not_true, Bool.not_false, Bool.false_eq_true, Bool.true_eq_false, Bool.or_true, Bool.true_or, Bool.false_or, Bool.or_false, Bool.and_true, Bool.and_false, Bool.true_and, Bool.false_and, addI, subI, ltI, leI, gtI, geI, eqI, neI, E3.negI, ix_cell0, ix_cell1, E3.le0, E3.le1, E3.le2, E3.le3, E3.le4, E3.le5, E3.le6, beq_self_eq_true, Int.reduceBEq, E3.divmodI, E3.modI, E3.fdivI, E3.powL, E3.mulLL, E3.isi_bool_none, E3.isi_bool_bool, E3.isi_bool_int, E3.isi_bool_str, E3.isi_bool_list, E3.isi_bool_tuple, E3.isi_int_none, E3.isi_int_bool, E3.isi_int_int, E3.isi_int_str, E3.isi_int_list, E3.isi_int_tuple, E3.isi_str_none, E3.isi_str_bool, E3.isi_str_int, E3.isi_str_str, E3.isi_str_list, E3.isi_str_tuple, E3.isi_list_none, E3.isi_list_bool, E3.isi_list_int, E3.isi_list_str, E3.isi_list_list, E3.isi_list_tuple, E3.isi_tuple_none, E3.isi_tuple_bool, E3.isi_tuple_int, E3.isi_tuple_str, E3.isi_tuple_list, E3.isi_tuple_tuple, E3.isN_none, E3.ntN_none, E3.isN_bool, E3.ntN_bool, E3.isN_int, E3.ntN_int, E3.isN_str, E3.ntN_str, E3.isN_list, E3.ntN_list, E3.isN_tuple, E3.ntN_tuple, E3.len_list, E3.len_tup, E3.seq_list, E3.seq_tup, E3.tup_list, E3.tup_tup, E3.lst_list, E3.lst_tup, xM, xV, xB, xTB, x2, xAnd, xNil, xCons, xTup, xLst, xCall, xSl, xPotd, ownXd, potKd, ePotE, dropKV, fnPd, startPd, endPd, slL, eSlL, xPot, ownX, potK, XR.bind_ok, XR.bind_exc, XR.bind_stuck, XR.of_ok, XR.of_exc, XR.of_stuck, thenX_ok, thenX_exc, thenX_stuck, qSet, qRet, qIf, qAsg, qForR, qFor, H70.fR_i, H70.fR_b, H70.fR_ii, H70.fR_c, fnP, startP, endP, fnL, startL, endL, xPotL, xLast, fnN, endN, E3.ix_lst0, Int.cast_ofNat_Int, *])
def nr (steps L : List Pt) : Nat := (regs steps L L []).length
end H70
namespace E3
open PySem PySem.Spec PyProof.Rows L2
structure OwnInit (K : PySem.W.Frag) (M : Addr) : Prop where
  rd : PySem.W.readsIn K M (.type "type") = true
  ga : PySem.W.specialIn K (.ref M) "__getattribute__" = some (some (.builtin "type.__getattribute__"))
  at_ : PySem.W.findCls K (.ref M) (.type "type") "__init__" = some (.val (.builtin "ValueError.__init__"))
section
variable {X : Cx} {o e : Expr} {es : List Expr} {to te : TE} {ta : TA} {f : Str} {p p' p1 p2 pos : Pos}
end
section
variable {P : Program} {w : World} {K : PySem.W.Frag} {mg : Str → Option Value} {base : Heap}
end
section
variable {X : Cx} {E : WX} {x fld y : Str} {p pos pos' : Pos} {C fI : Addr} {fd : FuncData} {e : Expr} {fe : DS → Res D}
end
section
variable {X : Cx} {E : WX} {e : Expr} {pos : Pos} {f : Str} {fe : DS → Res D} {ok : Str → Bool}
end
end E3
namespace E3
open PySem PySem.Spec PyProof.Rows L2
section
open PySem.W
variable {prog : Program} {w : World} {A : Around} {E : Value → Shared → Prop} {s : Shared} {K : Frag} {x D : Addr} {ox : Obj} {od : Option Obj}
end
section
variable {X : Cx} {E : WX} {Ex : XK} {pins : List (Addr × Obj)} {σ0 : L2.St} {H : Hp} {s : Shared}
variable {e : Expr} {f : DS → Res D} {pos p p2 : Pos} {x : Str}
end
section
variable {X : Cx} {E : WX} {e : Expr} {es : List Expr} {ta : TE} {p pos : Pos} {x : Str} {fe : DS → Res D}
end
section
variable {X : Cx} {E : WX} {e : Expr} {f : DS → Res D} {lo hi : Option Expr} {fl fh : DS → Res (Option Int)} {pos p2 : Pos}
end
end E3
namespace E3
open PySem PySem.Spec PyProof.Rows L2
section
variable {X : Cx} {E : WX} {e : Expr} {f : DS → Res D} {pos p p2 : Pos} {T : String} {x : Str}
end
end E3
namespace E3
open PySem PySem.Spec PyProof.Rows L2
def lkF (f : Str) : List (D × D) → Option D
  | [] => none
  | (.str g, d) :: r => match f == g with
    | true => some d
    | false => lkF f r
  | _ :: r => lkF f r
section
variable {X : Cx} {E : WX} {e : Expr} {pos : Pos} {f : Str} {fe : DS → Res D} {ok : Str → Bool}
end
def methG {α : Type} (m : Str) (tbl : List (Str × (List D → Res D))) (o : D) (k : (List D → Res D) → Res α) : Res α := match o with
  | .dict ((.bool true, .str y) :: kvs) => match tbl.lookup y, lkF m kvs with
    | some F, none => k F
    | _, _ => .stuck
  | _ => .stuck
def eMeth (m : Str) (tbl : List (Str × (List D → Res D))) (fo : DS → Res D) (ga : DS → Res (List D)) : DS → Res D := fun σ => (fo σ).bind fun o => methG m tbl o fun F => (ga σ).bind fun ds => F (o :: ds)
def eMeth0 (m : Str) (tbl : List (Str × (List D → Res D))) (fo : DS → Res D) : DS → Res D := fun σ => (fo σ).bind fun o => methG m tbl o fun F => F [o]
structure MEnt (X : Cx) (E : L2.St → XK) (m : Str) (C : Addr) (sp : Sp) : Prop where
  ex : ∃ (k : Nat) (f : Addr) (fd : FuncData) (ps : List Str), Cls X.K C ∧ Meth X.K C m f ∧ FnOk X.prog X.w X.K X.mg X.base (L2.CX X.prog X.w) k f fd ps sp ∧ Room k X.A ∧ Binds X.K fd ps [] ∧ ∀ σ, PassesAt (L2.CX X.prog X.w) X σ (E σ)
section
variable {X : Cx} {o e : Expr} {es : List Expr} {m : Str} {apos pos : Pos} {E : L2.St → XK} {ta : TE} {t : TA}
end
inductive MTab (X : Cx) (S : Nat → (List D → Res D) → Sp) (m : Str) : List (Str × (List D → Res D)) → Prop
  | nil : MTab X S m []
  | cons {y : Str} {C : Addr} {k : Nat} {f : Addr} {fd : FuncData} {ps : List Str} {F : List D → Res D} {tbl : List (Str × (List D → Res D))} : PySem.W.nsIn X.K mainGlobals y = some (some (.ref C)) → Cls X.K C → Meth X.K C m f →
      FnOk X.prog X.w X.K X.mg X.base (L2.CX X.prog X.w) k f fd ps (S ps.length F) → Room k X.A → Binds X.K fd ps [] → (∀ ds, ds.length ≠ ps.length → F ds = .stuck) → MTab X S m tbl → MTab X S m ((y, F) :: tbl)
theorem MTab.get {X : Cx} {S : Nat → (List D → Res D) → Sp} {m y : Str} {tbl : List (Str × (List D → Res D))} {F : List D → Res D} (T : MTab X S m tbl) (h : tbl.lookup y = some F) :
    ∃ C k f fd ps, PySem.W.nsIn X.K mainGlobals y = some (some (.ref C)) ∧ Cls X.K C ∧ Meth X.K C m f ∧ FnOk X.prog X.w X.K X.mg X.base (L2.CX X.prog X.w) k f fd ps (S ps.length F) ∧ Room k X.A ∧ Binds X.K fd ps [] ∧ ∀ ds, ds.length ≠ ps.length → F ds = .stuck := by
  induction T with
  | nil => cases h
  | @cons y' C k f fd ps F' tbl n c k1 G hr hb hF _ ih =>
    rw [List.lookup_cons] at h
    cases hb' : y == y' with
    | true =>
      rw [hb'] at h
      cases h
      have e : y = y' := by simpa using hb'
      subst e
      exact ⟨C, k, f, fd, ps, n, c, k1, G, hr, hb, hF⟩
    | false => rw [hb'] at h; exact ih h
section
variable {X : Cx} {E : WX} {o e : Expr} {es : List Expr} {m : Str} {apos pos : Pos} {fo : DS → Res D} {ga : DS → Res (List D)} {tbl : List (Str × (List D → Res D))}
end
structure MkO (K : PySem.W.Frag) (C : Addr) : Prop where
  makes : PySem.W.makesIn K C = true
  init : PySem.W.findIn K (.ref C) "__init__" = some (some (.builtin "object.__init__"))
  kp : PySem.W.keepIn K (.ref C) = true
section
variable {X : Cx} {E : WX} {x : Str} {p pos : Pos} {C f : Addr} {e : Expr} {es : List Expr}
theorem Ext.ins {R H : Hp} {a dx : Addr} {fs : List (Str × V)} (s : Same R H) (h1 : H a = none) (h2 : H dx = none) (ne : dx ≠ a) : Ext R H (upd R a (.ins C dx fs)) (upd (upd H dx (.own a)) a (.ins C dx fs)) := by
  have x1 : Ext R H R (upd H dx (.own a)) := Ext.allocH s h2
  have ha : upd H dx (.own a) a = none := by rw [upd_ne (Ne.symm ne)]; exact h1
  exact x1.trans (Ext.alloc x1.sub ha)
end
section
variable {P : Program} {w : World} {K : PySem.W.Frag} {mg : Str → Option Value} {base : Heap}
end
def mk2R (x f1 f2 : Str) : List D → Res D
  | [a, b] => .ok (.dict [(.bool true, .str x), (.str f1, a), (.str f2, b)])
  | _ => .stuck
def eMk2 (x f1 f2 : Str) (ga : DS → Res (List D)) : DS → Res D := fun σ => (ga σ).bind (mk2R x f1 f2)
section
variable {X : Cx} {E : WX} {x f1 f2 p1 p2 : Str} {p pos : Pos} {C f : Addr} {fd : FuncData} {e : Expr} {es : List Expr} {ga : DS → Res (List D)}
end
structure InsC (K : PySem.W.Frag) (C : Addr) : Prop where
  cl : Cls K C
  ha : PySem.W.findIn K (.ref C) "__class__" = some (some (.builtin "object.__class__"))
  hn : PySem.W.specialIn K (.builtin "object.__class__") "__get__" = some (some (.builtin "getset_descriptor.__get__"))
  ht : PySem.W.takesIn K (.builtin "object.__class__") = some true
  hm : PySem.W.mroIn K C (.type "object") = some true
section
variable {X : Cx} {E : WX} {e : Expr} {f : DS → Res D} {pos p p2 : Pos} {x : Str}
end
end E3
namespace E3
open PySem PySem.Spec PyProof.Rows L2
end E3
namespace H30
open PySem PySem.Spec PyProof.Rows L2 E3 H6
local macro_rules | `(tactic| walk_at "ev") => `(tactic| try simp (disch := first | decide | decide +kernel | omega) only [fnD, eMeth, eMeth0, eMk2, mk2R, xOr, xNot, startF, endF, sSeq, sAsg, sSet, sSetV, sAsgV, sIf, sRet, sNew, sNewV, sMut, sMutV, sFor, sForR, sFreeze, sNil, sExpr, optK, thenR_ok, thenR_exc, thenR_stuck,
  view, mask, E3.eVar_zero, E3.eVar_succ, eC, e1, e2, eCall, eTup, eLst, eSl, oNone, oSome, eAnd, eOr, eIf, E3.tAnd, E3.tOr, E3.tNot, E3.tB, asB, notD, aNil, aCons, Res.bind_ok, Res.bind_exc, Res.bind_stuck,
  gT, gsCons, gsNil, gN, tupD, lstD, Slot.dat, Slot.shd, List.length_cons, List.length_nil, List.map_cons, List.map_nil, List.replicate, List.append_nil, List.cons_append, List.nil_append, Option.map_some, Option.map_none, Option.bind_some, Option.bind_none,
  List.getElem?_cons_zero, List.getElem?_cons_succ, List.set_cons_zero, List.set_cons_succ, Nat.reduceAdd, Nat.reduceSub, Nat.reduceEqDiff, if_true, if_false, ite_true, ite_false, reduceIte, decide_true, decide_false, reduceCtorEq, Bool.not_true, Bool.not_false, Bool.false_eq_true, Bool.true_eq_false, Bool.or_true, Bool.true_or, Bool.false_or, Bool.or_false, Bool.and_true, Bool.and_false, Bool.true_and, Bool.false_and, addI, subI, ltI, leI, gtI, geI, eqI, neI, E3.negI, ix_cell0, ix_cell1, E3.le0, E3.le1, E3.le2, E3.le3, E3.le4, E3.le5, E3.le6, beq_self_eq_true, Int.reduceBEq, E3.divmodI, E3.modI, E3.fdivI, E3.powL, E3.mulLL, E3.isi_bool_none, E3.isi_bool_bool, E3.isi_bool_int, E3.isi_bool_str, E3.isi_bool_list, E3.isi_bool_tuple, E3.isi_int_none, E3.isi_int_bool, E3.isi_int_int, E3.isi_int_str, E3.isi_int_list, E3.isi_int_tuple, E3.isi_str_none, E3.isi_str_bool, E3.isi_str_int, E3.isi_str_str, E3.isi_str_list, E3.isi_str_tuple, E3.isi_list_none, E3.isi_list_bool, E3.isi_list_int, E3.isi_list_str, E3.isi_list_list, E3.isi_list_tuple, E3.isi_tuple_none, E3.isi_tuple_bool, E3.isi_tuple_int, E3.isi_tuple_str, E3.isi_tuple_list, E3.isi_tuple_tuple, E3.isN_none, E3.ntN_none, E3.isN_bool, E3.ntN_bool, E3.isN_int, E3.ntN_int, E3.isN_str, E3.ntN_str, E3.isN_list, E3.ntN_list, E3.isN_tuple, E3.ntN_tuple, E3.len_list, E3.len_tup, E3.seq_list, E3.seq_tup, E3.tup_list, E3.tup_tup, E3.lst_list, E3.lst_tup, xM, xV, xB, xTB, x2, xAnd, xNil, xCons, xTup, xLst, xCall, xSl, xPot, ownX, potK, XR.bind_ok, XR.bind_exc, XR.bind_stuck, XR.of_ok, XR.of_exc, XR.of_stuck, thenX_ok, thenX_exc, thenX_stuck, qSet, qRet, qIf, qAsg, qForR, qFor, E3.flatR_i, E3.flatR_b, E3.flatR_ii, E3.flatR_c, fnP, startP, endP, fnL, startL, endL, xPotL, xLast, fnN, endN, E3.ix_lst0, H6.nextI, Int.cast_ofNat_Int])
local macro_rules | `(tactic| walk_at "evs") => `(tactic| try simp (disch := first | decide | decide +kernel | omega) only [fnD, eMeth, eMeth0, eMk2, mk2R, xOr, xNot, startF, endF, sSeq, sAsg, sSet, sSetV, sAsgV, sIf, sRet, sNew, sNewV, sMut, sMutV, sFor, sForR, sFreeze, sNil, sExpr, optK, thenR_ok, thenR_exc, thenR_stuck,
  view, mask, E3.eVar_zero, E3.eVar_succ, eC, e1, e2, eCall, eTup, eLst, eSl, oNone, oSome, eAnd, eOr, eIf, E3.tAnd, E3.tOr, E3.tNot, E3.tB, asB, notD, aNil, aCons, Res.bind_ok, Res.bind_exc, Res.bind_stuck,
  gT, gsCons, gsNil, gN, tupD, lstD, Slot.dat, Slot.shd, List.length_cons, List.length_nil, List.map_cons, List.map_nil, List.replicate, List.append_nil, List.cons_append, List.nil_append, Option.map_some, Option.map_none, Option.bind_some, Option.bind_none,
  List.getElem?_cons_zero, List.getElem?_cons_succ, List.set_cons_zero, List.set_cons_succ, Nat.reduceAdd, Nat.reduceSub, Nat.reduceEqDiff, if_true, if_false, ite_true, ite_false, reduceIte, decide_true, decide_false, reduceCtorEq, Bool.not_true, Bool.not_false, Bool.false_eq_true, Bool.true_eq_false, Bool.or_true, Bool.true_or, Bool.false_or, Bool.or_false, Bool.and_true, Bool.and_false, Bool.true_and, Bool.false_and, addI, subI, ltI, leI, gtI, geI, eqI, neI, E3.negI, ix_cell0, ix_cell1, E3.le0, E3.le1, E3.le2, E3.le3, E3.le4, E3.le5, E3.le6, beq_self_eq_true, Int.reduceBEq, E3.divmodI, E3.modI, E3.fdivI, E3.powL, E3.mulLL, E3.isi_bool_none, E3.isi_bool_bool, E3.isi_bool_int, E3.isi_bool_str, E3.isi_bool_list, E3.isi_bool_tuple, E3.isi_int_none, E3.isi_int_bool, E3.isi_int_int, E3.isi_int_str, E3.isi_int_list, E3.isi_int_tuple, E3.isi_str_none, E3.isi_str_bool, E3.isi_str_int, E3.isi_str_str, E3.isi_str_list, E3.isi_str_tuple, E3.isi_list_none, E3.isi_list_bool, E3.isi_list_int, E3.isi_list_str, E3.isi_list_list, E3.isi_list_tuple, E3.isi_tuple_none, E3.isi_tuple_bool, E3.isi_tuple_int, E3.isi_tuple_str, E3.isi_tuple_list, E3.isi_tuple_tuple, E3.isN_none, E3.ntN_none, E3.isN_bool, E3.ntN_bool, E3.isN_int, E3.ntN_int, E3.isN_str, E3.ntN_str, E3.isN_list, E3.ntN_list, E3.isN_tuple, E3.ntN_tuple, E3.len_list, E3.len_tup, E3.seq_list, E3.seq_tup, E3.tup_list, E3.tup_tup, E3.lst_list, E3.lst_tup, xM, xV, xB, xTB, x2, xAnd, xNil, xCons, xTup, xLst, xCall, xSl, xPot, ownX, potK, XR.bind_ok, XR.bind_exc, XR.bind_stuck, XR.of_ok, XR.of_exc, XR.of_stuck, thenX_ok, thenX_exc, thenX_stuck, qSet, qRet, qIf, qAsg, qForR, qFor, E3.flatR_i, E3.flatR_b, E3.flatR_ii, E3.flatR_c, fnP, startP, endP, fnL, startL, endL, xPotL, xLast, fnN, endN, E3.ix_lst0, H6.nextI, Int.cast_ofNat_Int, *])
def C_law_deal_1 : SF := (sRet (e2 subD (eVar 0) (e2 powD (eC (.int 10)) (eC (.int 18)))))
def I_law_deal_1 : DS → Res (List D) := (fun σ => ((aCons (eVar 1) aNil) σ).bind rng1)
def B_law_deal_1 : SF := (sSeq (sSet 3 (e2 modD (e2 addD (e2 addD (e2 mulD (eVar 3) (eC (.int 48271))) (e2 mulD (e2 mulD (eC (.int 7919)) (eVar 4)) (eVar 4))) (eC (.int 104729))) (eC (.int 2147483647))))
  (sSeq (sSet 5 (e2 modD (e2 mulD (eVar 3) (eVar 3)) (eC (.int 2147483629))))
  (sSet 2 (e2 addD (e2 mulD (eVar 2) (eC (.int 65536))) (e2 modD (e2 fdivD (eVar 5) (eC (.int 512))) (eC (.int 65536)))))))
def D_law_deal : List D → Res D := fnD 6 2 (sSeq (sIf (tB (e2 geD (eVar 0) (e2 powD (eC (.int 10)) (eC (.int 18))))) C_law_deal_1 sNil)
  (sSeq (sSet 2 (eC (.int 0)))
  (sSeq (sSet 3 (e2 addD (e2 modD (eVar 0) (eC (.int 2147483647))) (eC (.int 16807))))
  (sSeq (sFor I_law_deal_1 (gN 4)
  B_law_deal_1)
  (sRet (eVar 2))))))
theorem p6 : (10 : Int) ^ Int.toNat 6 = 1000000 := rfl
theorem deal_turn (c number one many : Int) (k b : Nat) (x5 : Option Slot) (hk : k < 1000) (hg : 0 ≤ number ∧ number < 2 ^ b) (ho : 0 ≤ one ∧ one < 8589934592) (hb : b < 900000) : ∃ number' one' two' : Int, (0 ≤ number' ∧ number' < 2 ^ (b + 16)) ∧ (0 ≤ one' ∧ one' < 8589934592) ∧
    B_law_deal_1 [some (.sh (.int c)), some (.sh (.int many)), some (.sh (.int number)), some (.sh (.int one)), some (.sh (.int (k : Nat))), x5] = .ok .nx [some (.sh (.int c)), some (.sh (.int many)), some (.sh (.int number')), some (.sh (.int one')), some (.sh (.int (k : Nat))), some (.sh (.int two'))] := by
  have hkI : (0 : Int) ≤ (k : Nat) ∧ ((k : Nat) : Int) < 1000 := by omega
  generalize ((k : Nat) : Int) = j at hkI ⊢
  have m1 : mulD (.int one) (.int 48271) = .ok (.int (one * 48271)) := mulB 40 20 (by omega) (by omega) (by decide)
  have m2 : mulD (.int 7919) (.int j) = .ok (.int (7919 * j)) := mulB 20 20 (by omega) (by omega) (by decide)
  have m3 : mulD (.int (7919 * j)) (.int j) = .ok (.int (7919 * j * j)) := mulB 40 20 (by omega) (by omega) (by decide)
  have r0 := Int.emod_nonneg (one * 48271 + 7919 * j * j + 104729) (show (2147483647 : Int) ≠ 0 by decide)
  have r1 := Int.emod_lt_of_pos (one * 48271 + 7919 * j * j + 104729) (show (0 : Int) < 2147483647 by decide)
  generalize h1 : (one * 48271 + 7919 * j * j + 104729) % 2147483647 = y at r0 r1
  have m4 : mulD (.int y) (.int y) = .ok (.int (y * y)) := mulB 40 40 (by omega) (by omega) (by decide)
  have s0 := Int.emod_nonneg (y * y) (show (2147483629 : Int) ≠ 0 by decide)
  generalize h2 : y * y % 2147483629 = z at s0
  have hp : (0 : Int) < 2 ^ b := Int.pow_pos (by decide)
  have m5 : mulD (.int number) (.int 65536) = .ok (.int (number * 65536)) := mulB b 20 (by omega) (by omega) (by omega)
  have t0 := Int.emod_nonneg (z / 512) (show (65536 : Int) ≠ 0 by decide)
  have t1 := Int.emod_lt_of_pos (z / 512) (show (0 : Int) < 65536 by decide)
  have e2 : (2 : Int) ^ (b + 16) = 2 ^ b * 65536 := by rw [Int.pow_add]; rfl
  refine ⟨number * 65536 + z / 512 % 65536, y, z, ⟨by omega, by omega⟩, ⟨r0, by omega⟩, ?_⟩
  unfold B_law_deal_1
  walk_at "ev"
  rw [m1]
  walk_at "ev"
  rw [m2]
  walk_at "ev"
  rw [m3]
  walk_at "ev"
  rw [h1]
  try walk_at "ev"
  rw [m4]
  walk_at "ev"
  rw [h2]
  try walk_at "ev"
  rw [m5]
  walk_at "ev"
theorem deal_ok (c : Int) (m : Int) (hm : 0 ≤ m ∧ m ≤ 500) : ∃ n : Int, 0 ≤ n ∧ D_law_deal [.int c, .int m] = .ok (.int n) := by
  by_cases hc : (1000000000000000000 : Int) ≤ c
  · refine ⟨c - 10 ^ 18, by omega, ?_⟩
    unfold D_law_deal C_law_deal_1
    walk_at "ev"
    have e : decide ((10 : Int) ^ Int.toNat 18 ≤ c) = true := decide_eq_true (by show (10 : Int) ^ 18 ≤ c; omega)
    rw [e]
    walk_at "ev"
    rfl
  · have c0 := Int.emod_nonneg c (show (2147483647 : Int) ≠ 0 by decide)
    have c1 := Int.emod_lt_of_pos c (show (0 : Int) < 2147483647 by decide)
    obtain ⟨σ', e, number, one, x4, x5, hg, ho, rfl⟩ := forS_pre (p := gN 4) (body := B_law_deal_1) (g := fun k : Nat => PyData.int (k : Nat))
      (Inv := fun pre σ => ∃ (number one : Int) (x4 x5 : Option Slot), (0 ≤ number ∧ number < 2 ^ (16 * pre.length)) ∧ (0 ≤ one ∧ one < 8589934592) ∧
        σ = [some (.sh (.int c)), some (.sh (.int m)), some (.sh (.int number)), some (.sh (.int one)), x4, x5]) (List.range m.toNat)
      [some (.sh (.int c)), some (.sh (.int m)), some (.sh (.int 0)), some (.sh (.int (c % 2147483647 + 16807))), none, none]
      ⟨0, _, none, none, ⟨by omega, by decide⟩, ⟨by omega, by omega⟩, rfl⟩ (by
      rintro pre k post σ he ⟨number, one, x4, x5, hg, ho, rfl⟩
      have hk : k < m.toNat := List.mem_range.mp (by rw [he]; simp)
      have hl : pre.length < m.toNat := by
        have := congrArg List.length he
        rw [List.length_range, List.length_append, List.length_cons] at this
        omega
      obtain ⟨number', one', two', h1, h2, h3⟩ := deal_turn c number one m k (16 * pre.length) x5 (by omega) hg ho (by omega)
      refine ⟨_, _, rfl, .inl h3, number', one', some (.sh (.int (k : Nat))), some (.sh (.int two')), ⟨h1.1, ?_⟩, h2, rfl⟩
      rw [List.length_append, List.length_singleton, Nat.mul_add, Nat.mul_one]
      exact h1.2)
    refine ⟨number, hg.1, ?_⟩
    have it : ∀ a b c d e : Option D, I_law_deal_1 [a, some (.int m), b, c, d, e] = .ok ((List.range m.toNat).map fun k : Nat => PyData.int (k : Nat)) := fun _ _ _ _ _ => rng1_nat (m := m) hm.1 (by omega)
    have e1 : decide ((10 : Int) ^ Int.toNat 18 ≤ c) = false := decide_eq_false (by show ¬ (10 : Int) ^ 18 ≤ c; omega)
    have md : modD (.int c) (.int 2147483647) = .ok (.int (c % 2147483647)) := modI (by decide)
    unfold D_law_deal
    generalize I_law_deal_1 = I at *
    generalize B_law_deal_1 = B at *
    generalize C_law_deal_1 = C at *
    walk_at "ev"
    rw [e1]
    walk_at "ev"
    try (rw [md]; walk_at "ev")
    rw [it]
    walk_at "ev"
    rw [e]
    walk_at "ev"
end H30
namespace H6
open PySem PySem.Spec PyProof.Rows L2 E3
local macro_rules | `(tactic| walk_at "ev") => `(tactic| try simp (disch := first | decide | decide +kernel | omega) only [fnD, startF, endF, sSeq, sAsg, sSet, sSetV, sAsgV, sIf, sRet, sNew, sNewV, sMut, sMutV, sFor, sForR, sFreeze, sNil, sExpr, optK, thenR_ok, thenR_exc, thenR_stuck,
  view, mask, E3.eVar_zero, E3.eVar_succ, eC, e1, e2, eCall, eTup, eLst, eSl, oNone, oSome, eAnd, eOr, eIf, E3.tAnd, E3.tOr, E3.tNot, E3.tB, asB, notD, aNil, aCons, Res.bind_ok, Res.bind_exc, Res.bind_stuck,
  gT, gsCons, gsNil, gN, tupD, lstD, Slot.dat, Slot.shd, List.length_cons, List.length_nil, List.map_cons, List.map_nil, List.replicate, List.append_nil, List.cons_append, List.nil_append, Option.map_some, Option.map_none, Option.bind_some, Option.bind_none,
  List.getElem?_cons_zero, List.getElem?_cons_succ, List.set_cons_zero, List.set_cons_succ, Nat.reduceAdd, Nat.reduceSub, Nat.reduceEqDiff, if_true, if_false, ite_true, ite_false, reduceIte, decide_true, decide_false, reduceCtorEq, Bool.not_true, Bool.not_false, Bool.false_eq_true, Bool.true_eq_false, Bool.or_true, Bool.true_or, Bool.false_or, Bool.or_false, Bool.and_true, Bool.and_false, Bool.true_and, Bool.false_and, addI, subI, ltI, leI, gtI, geI, eqI, neI, E3.negI, ix_cell0, ix_cell1, E3.le0, E3.le1, E3.le2, E3.le3, E3.le4, E3.le5, E3.le6, beq_self_eq_true, Int.reduceBEq, E3.divmodI, E3.modI, E3.fdivI, E3.powL, E3.mulLL, E3.isi_bool_none, E3.isi_bool_bool, E3.isi_bool_int, E3.isi_bool_str, E3.isi_bool_list, E3.isi_bool_tuple, E3.isi_int_none, E3.isi_int_bool, E3.isi_int_int, E3.isi_int_str, E3.isi_int_list, E3.isi_int_tuple, E3.isi_str_none, E3.isi_str_bool, E3.isi_str_int, E3.isi_str_str, E3.isi_str_list, E3.isi_str_tuple, E3.isi_list_none, E3.isi_list_bool, E3.isi_list_int, E3.isi_list_str, E3.isi_list_list, E3.isi_list_tuple, E3.isi_tuple_none, E3.isi_tuple_bool, E3.isi_tuple_int, E3.isi_tuple_str, E3.isi_tuple_list, E3.isi_tuple_tuple, E3.isN_none, E3.ntN_none, E3.isN_bool, E3.ntN_bool, E3.isN_int, E3.ntN_int, E3.isN_str, E3.ntN_str, E3.isN_list, E3.ntN_list, E3.isN_tuple, E3.ntN_tuple, E3.len_list, E3.len_tup, E3.seq_list, E3.seq_tup, E3.tup_list, E3.tup_tup, E3.lst_list, E3.lst_tup, xM, xV, xB, xTB, x2, xAnd, xNil, xCons, xTup, xLst, xCall, xSl, xPot, ownX, potK, XR.bind_ok, XR.bind_exc, XR.bind_stuck, XR.of_ok, XR.of_exc, XR.of_stuck, thenX_ok, thenX_exc, thenX_stuck, qSet, qRet, qIf, qAsg, qForR, qFor, E3.flatR_i, E3.flatR_b, E3.flatR_ii, E3.flatR_c, fnP, startP, endP, fnN, endN, E3.ix_lst0, H6.nextI, Int.cast_ofNat_Int])
theorem cut_take (ds : List D) (n : Nat) : E3.cutD ds none (some (n : Nat)) = ds.take n := by
  unfold E3.cutD
  rw [show HT.sIx ds.length 0 none = 0 from rfl, HT.sIx_nat, List.drop_zero, Nat.sub_zero]
  by_cases h : n ≤ ds.length
  · rw [Nat.min_eq_left h]
  · rw [Nat.min_eq_right (by omega), List.take_length, List.take_of_length_le (by omega)]
end H6
namespace E3
open PySem PySem.Spec PyProof.Rows L2
def Lk (R R' : Hp) : Prop := ∀ b u, R b = some u → R' b = some u ∨ ∃ o ks, (u = .dT ks ∧ R' b = some (.frz o (.dT ks))) ∨ (u = .frz o (.dT ks) ∧ R' b = some (.dT ks))
theorem Lk.lst {R R' : Hp} {K : PySem.W.Frag} {a : Addr} {xs : List V} (e : Lk R R') (h : LsQ K R a xs) : LsQ K R' a xs := by
  rcases h with (h | ⟨o, h⟩) | h
  · rcases e _ _ h with z | ⟨_, _, ⟨z, _⟩ | ⟨z, _⟩⟩
    · exact .inl (.inl z)
    · cases z
    · cases z
  · rcases e _ _ h with z | ⟨_, _, ⟨z, _⟩ | ⟨z, _⟩⟩
    · exact .inl (.inr ⟨o, z⟩)
    · cases z
    · cases z
  · exact .inr h
theorem Lk.dct {R R' : Hp} {a : Addr} {ks : List (List Key × V)} (e : Lk R R') (h : Rd R a (.dT ks)) : Rd R' a (.dT ks) := by
  rcases h with h | ⟨o, h⟩
  · rcases e _ _ h with z | ⟨o', _, ⟨z, z2⟩ | ⟨z, _⟩⟩
    · exact .inl z
    · cases z; exact .inr ⟨_, z2⟩
    · cases z
  · rcases e _ _ h with z | ⟨o', _, ⟨z, _⟩ | ⟨z, z2⟩⟩
    · exact .inr ⟨o, z⟩
    · cases z
    · cases z; exact .inl z2
theorem Lk.get {R R' : Hp} {a : Addr} {u : HO} (e : Lk R R') (h : R a = some u) (n1 : ∀ ks, u ≠ .dT ks) (n2 : ∀ o ks, u ≠ .frz o (.dT ks)) : R' a = some u := by
  rcases e _ _ h with z | ⟨o', _, ⟨z, _⟩ | ⟨z, _⟩⟩
  · exact z
  · exact absurd z (n1 _)
  · exact absurd z (n2 _ _)
theorem Lk.ob {K : PySem.W.Frag} {R R' : Hp} {a : Addr} {x : Str} {k : D} {vs : List (Str × V)} (e : Lk R R') (h : ObT K R a x k vs) : ObT K R' a x k vs := by
  cases h with
  | er h1 h2 => exact .er h1 (e.get h2 (fun _ z => nomatch z) (fun _ _ z => nomatch z))
  | erf h1 h2 h3 => exact .erf h1 (e.get h2 (fun _ z => nomatch z) (fun _ _ z => nomatch z)) (e.get h3 (fun _ z => nomatch z) (fun _ _ z => nomatch z))
  | ins h1 h2 => exact .ins h1 (e.get h2 (fun _ z => nomatch z) (fun _ _ z => nomatch z))
  | wt h1 h2 h3 h4 h5 => exact .wt h1 h2 h3 h4 h5
section
variable {K : PySem.W.Frag} {R R' : Hp}
mutual
theorem Rp.lk (e : Lk R R') : ∀ {v : V} {d : D}, Rp K R v d → Rp K R' v d
  | _, _, .non => .non
  | _, _, .bl b => .bl b
  | _, _, .int i => .int i
  | _, _, .str x => .str x
  | _, _, .lst h r => .lst (e.lst h) (RpA.lk e r)
  | _, _, .tup h r => .tup (e.get h (fun _ z => nomatch z) (fun _ _ z => nomatch z)) (RpA.lk e r)
  | _, _, .dT h r => .dT (e.dct h) (RpK.lk e r)
  | _, _, .ob h r => .ob (e.ob h) (RpF.lk e r)
theorem RpA.lk (e : Lk R R') : ∀ {vs : List V} {ds : List D}, RpA K R vs ds → RpA K R' vs ds
  | _, _, .nil => .nil
  | _, _, .cons h r => .cons (Rp.lk e h) (RpA.lk e r)
theorem RpK.lk (e : Lk R R') : ∀ {vs : List (List Key × V)} {ds : List (D × D)}, RpK K R vs ds → RpK K R' vs ds
  | _, _, .nil => .nil
  | _, _, .cons h r => .cons (Rp.lk e h) (RpK.lk e r)
theorem RpF.lk (e : Lk R R') : ∀ {vs : List (Str × V)} {ds : List (D × D)}, RpF K R vs ds → RpF K R' vs ds
  | _, _, .nil => .nil
  | _, _, .cons h r => .cons (Rp.lk e h) (RpF.lk e r)
end
theorem RS.lk {σ : DS} {τ : L2.St} (e : Lk R R') (h : RS K R σ τ) : RS K R' σ τ := ⟨fun i d q => by obtain ⟨v, h1, h2⟩ := h.get i d q; exact ⟨v, h1, Rp.lk e h2⟩, h.len⟩
end
theorem Lk.open {R : Hp} {a : Addr} {o : Obj} {ks : List (List Key × V)} (h : R a = some (.frz o (.dT ks))) : Lk R (upd R a (.dT ks)) := fun b u e => by
  by_cases hb : b = a
  · subst hb; rw [h] at e; cases e; exact .inr ⟨o, ks, .inr ⟨rfl, upd_same⟩⟩
  · exact .inl (by rw [upd_ne hb]; exact e)
section
variable {X : Cx} {E : WX} {tg elt : Expr} {ifs : List Expr} {scope : Scope} {own : List (Str × Nat)} {pt : GF} {ix : List Nat} {c : DS → Res Bool} {f : DS → Res D} {pos : Pos}
end
end E3
namespace H70
open PySem PySem.Spec PyProof.Rows L2 E3 
local macro_rules | `(tactic| walk_at "ev") => `(tactic| try simp (disch := first | decide | decide +kernel | omega) only [fnD, xOr, xNot, startF, endF, sSeq, sAsg, sSet, sSetV, sAsgV, sIf, sRet, sNew, sNewV, sMut, sMutV, sFor, sForR, sFreeze, sNil, sExpr, optK, thenR_ok, thenR_exc, thenR_stuck,
  view, mask, E3.eVar_zero, E3.eVar_succ, eC, e1, e2, eCall, eTup, eLst, eSl, oNone, oSome, eAnd, eOr, eIf, E3.tAnd, E3.tOr, E3.tNot, E3.tB, asB, notD, aNil, aCons, Res.bind_ok, Res.bind_exc, Res.bind_stuck,
  gT, gsCons, gsNil, gN, tupD, lstD, Slot.dat, Slot.shd, List.length_cons, List.length_nil, List.map_cons, List.map_nil, List.replicate, List.append_nil, List.cons_append, List.nil_append, Option.map_some, Option.map_none, Option.bind_some, Option.bind_none,
  List.getElem?_cons_zero, List.getElem?_cons_succ, List.set_cons_zero, List.set_cons_succ, Nat.reduceAdd, Nat.reduceSub, Nat.reduceEqDiff, if_true, if_false, ite_true, ite_false, reduceIte, decide_true, decide_false, reduceCtorEq, Bool.not_true, Bool.not_false, Bool.false_eq_true, Bool.true_eq_false, Bool.or_true, Bool.true_or, Bool.false_or, Bool.or_false, Bool.and_true, Bool.and_false, Bool.true_and, Bool.false_and, addI, subI, ltI, leI, gtI, geI, eqI, neI, E3.negI, ix_cell0, ix_cell1, E3.le0, E3.le1, E3.le2, E3.le3, E3.le4, E3.le5, E3.le6, beq_self_eq_true, Int.reduceBEq, E3.divmodI, E3.modI, E3.fdivI, E3.powL, E3.mulLL, E3.isi_bool_none, E3.isi_bool_bool, E3.isi_bool_int, E3.isi_bool_str, E3.isi_bool_list, E3.isi_bool_tuple, E3.isi_int_none, E3.isi_int_bool, E3.isi_int_int, E3.isi_int_str, E3.isi_int_list, E3.isi_int_tuple, E3.isi_str_none, E3.isi_str_bool, E3.isi_str_int, E3.isi_str_str, E3.isi_str_list, E3.isi_str_tuple, E3.isi_list_none, E3.isi_list_bool, E3.isi_list_int, E3.isi_list_str, E3.isi_list_list, E3.isi_list_tuple, E3.isi_tuple_none, E3.isi_tuple_bool, E3.isi_tuple_int, E3.isi_tuple_str, E3.isi_tuple_list, E3.isi_tuple_tuple, E3.isN_none, E3.ntN_none, E3.isN_bool, E3.ntN_bool, E3.isN_int, E3.ntN_int, E3.isN_str, E3.ntN_str, E3.isN_list, E3.ntN_list, E3.isN_tuple, E3.ntN_tuple, E3.len_list, E3.len_tup, E3.seq_list, E3.seq_tup, E3.tup_list, E3.tup_tup, E3.lst_list, E3.lst_tup, xM, xV, xB, xTB, x2, xAnd, xNil, xCons, xTup, xLst, xCall, xSl, xPotd, ownXd, potKd, ePotE, dropKV, fnPd, startPd, endPd, slL, eSlL, xPot, ownX, potK, XR.bind_ok, XR.bind_exc, XR.bind_stuck, XR.of_ok, XR.of_exc, XR.of_stuck, thenX_ok, thenX_exc, thenX_stuck, qSet, qRet, qIf, qAsg, qForR, qFor, H70.fR_i, H70.fR_b, H70.fR_ii, H70.fR_c, fnP, startP, endP, fnL, startL, endL, xPotL, xLast, fnN, endN, E3.ix_lst0, Int.cast_ofNat_Int])
local macro_rules | `(tactic| walk_at "evs") => `(tactic| try simp (disch := first | decide | decide +kernel | omega) only [fnD, xOr, xNot, startF, endF, sSeq, sAsg, sSet, sSetV, sAsgV, sIf, sRet, sNew, sNewV, sMut, sMutV, sFor, sForR, sFreeze, sNil, sExpr, optK, thenR_ok, thenR_exc, thenR_stuck,
  view, mask, E3.eVar_zero, E3.eVar_succ, eC, e1, e2, eCall, eTup, eLst, eSl, oNone, oSome, eAnd, eOr, eIf, E3.tAnd, E3.tOr, E3.tNot, E3.tB, asB, notD, aNil, aCons, Res.bind_ok, Res.bind_exc, Res.bind_stuck,
  gT, gsCons, gsNil, gN, tupD, lstD, Slot.dat, Slot.shd, List.length_cons, List.length_nil, List.map_cons, List.map_nil, List.replicate, List.append_nil, List.cons_append, List.nil_append, Option.map_some, Option.map_none, Option.bind_some, Option.bind_none,
  List.getElem?_cons_zero, List.getElem?_cons_succ, List.set_cons_zero, List.set_cons_succ, Nat.reduceAdd, Nat.reduceSub, Nat.reduceEqDiff, if_true, if_false, ite_true, ite_false, reduceIte, decide_true, decide_false, reduceCtorEq, Bool.not_true, Bool.not_false, Bool.false_eq_true, Bool.true_eq_false, Bool.or_true, Bool.true_or, Bool.false_or, Bool.or_false, Bool.and_true, Bool.and_false, Bool.true_and, Bool.false_and, addI, subI, ltI, leI, gtI, geI, eqI, neI, E3.negI, ix_cell0, ix_cell1, E3.le0, E3.le1, E3.le2, E3.le3, E3.le4, E3.le5, E3.le6, beq_self_eq_true, Int.reduceBEq, E3.divmodI, E3.modI, E3.fdivI, E3.powL, E3.mulLL, E3.isi_bool_none, E3.isi_bool_bool, E3.isi_bool_int, E3.isi_bool_str, E3.isi_bool_list, E3.isi_bool_tuple, E3.isi_int_none, E3.isi_int_bool, E3.isi_int_int, E3.isi_int_str, E3.isi_int_list, E3.isi_int_tuple, E3.isi_str_none, E3.isi_str_bool, E3.isi_str_int, E3.isi_str_str, E3.isi_str_list, E3.isi_str_tuple, E3.isi_list_none, E3.isi_list_bool, E3.isi_list_int, E3.isi_list_str, E3.isi_list_list, E3.isi_list_tuple, E3.isi_tuple_none, E3.isi_tuple_bool, E3.isi_tuple_int, E3.isi_tuple_str, E3.isi_tuple_list, E3.isi_tuple_tuple, E3.isN_none, E3.ntN_none, E3.isN_bool, E3.ntN_bool, E3.isN_int, E3.ntN_int, E3.isN_str, E3.ntN_str, E3.isN_list, E3.ntN_list, E3.isN_tuple, E3.ntN_tuple, E3.len_list, E3.len_tup, E3.seq_list, E3.seq_tup, E3.tup_list, E3.tup_tup, E3.lst_list, E3.lst_tup, xM, xV, xB, xTB, x2, xAnd, xNil, xCons, xTup, xLst, xCall, xSl, xPotd, ownXd, potKd, ePotE, dropKV, fnPd, startPd, endPd, slL, eSlL, xPot, ownX, potK, XR.bind_ok, XR.bind_exc, XR.bind_stuck, XR.of_ok, XR.of_exc, XR.of_stuck, thenX_ok, thenX_exc, thenX_stuck, qSet, qRet, qIf, qAsg, qForR, qFor, H70.fR_i, H70.fR_b, H70.fR_ii, H70.fR_c, fnP, startP, endP, fnL, startL, endL, xPotL, xLast, fnN, endN, E3.ix_lst0, Int.cast_ofNat_Int, *])
noncomputable section
def squareL : List Pt := [(0, 0), (0, 1), (1, 0), (1, 1)]
def b2i (t : Bool) : Int := if t then 1 else 0
theorem neI (i j : Int) : neD (.int i) (.int j) = .ok (.bool (!(i == j))) := rfl
def sqL (ps : List Pt) (c : Pt) : List Pt := squareL.filter fun st => decide (plusC c st ∈ ps)
def wgt (ps : List Pt) (c : Pt) : Int := match sqL ps c with
  | [a, b] => 0 - 2 * b2i (!(a.1 == b.1) && !(a.2 == b.2))
  | l => b2i (l.length == 1) - b2i (l.length == 3)
def cornF (p : Pt) (L : List Pt) : List Pt := squareL.foldl (fun L st => addC L (lessC p st)) L
def cornL (ps L : List Pt) : List Pt := ps.foldl (fun L p => cornF p L) L
def surN (ps : List Pt) : Int := ((cornL ps []).map (wgt ps)).sum
end
end H70
namespace H70
open PySem PySem.Spec PyProof.Rows L2 E3 
local macro_rules | `(tactic| walk_at "ev") => `(tactic| try simp (disch := first | decide | decide +kernel | omega) only [fnD, xOr, xNot, startF, endF, sSeq, sAsg, sSet, sSetV, sAsgV, sIf, sRet, sNew, sNewV, sMut, sMutV, sFor, sForR, sFreeze, sNil, sExpr, optK, thenR_ok, thenR_exc, thenR_stuck,
  view, mask, E3.eVar_zero, E3.eVar_succ, eC, e1, e2, eCall, eTup, eLst, eSl, oNone, oSome, eAnd, eOr, eIf, E3.tAnd, E3.tOr, E3.tNot, E3.tB, asB, notD, aNil, aCons, Res.bind_ok, Res.bind_exc, Res.bind_stuck,
  gT, gsCons, gsNil, gN, tupD, lstD, Slot.dat, Slot.shd, List.length_cons, List.length_nil, List.map_cons, List.map_nil, List.replicate, List.append_nil, List.cons_append, List.nil_append, Option.map_some, Option.map_none, Option.bind_some, Option.bind_none,
  List.getElem?_cons_zero, List.getElem?_cons_succ, List.set_cons_zero, List.set_cons_succ, Nat.reduceAdd, Nat.reduceSub, Nat.reduceEqDiff, if_true, if_false, ite_true, ite_false, reduceIte, decide_true, decide_false, reduceCtorEq, Bool.not_true, Bool.not_false, Bool.false_eq_true, Bool.true_eq_false, Bool.or_true, Bool.true_or, Bool.false_or, Bool.or_false, Bool.and_true, Bool.and_false, Bool.true_and, Bool.false_and, addI, subI, ltI, leI, gtI, geI, eqI, neI, E3.negI, ix_cell0, ix_cell1, E3.le0, E3.le1, E3.le2, E3.le3, E3.le4, E3.le5, E3.le6, beq_self_eq_true, Int.reduceBEq, E3.divmodI, E3.modI, E3.fdivI, E3.powL, E3.mulLL, E3.isi_bool_none, E3.isi_bool_bool, E3.isi_bool_int, E3.isi_bool_str, E3.isi_bool_list, E3.isi_bool_tuple, E3.isi_int_none, E3.isi_int_bool, E3.isi_int_int, E3.isi_int_str, E3.isi_int_list, E3.isi_int_tuple, E3.isi_str_none, E3.isi_str_bool, E3.isi_str_int, E3.isi_str_str, E3.isi_str_list, E3.isi_str_tuple, E3.isi_list_none, E3.isi_list_bool, E3.isi_list_int, E3.isi_list_str, E3.isi_list_list, E3.isi_list_tuple, E3.isi_tuple_none, E3.isi_tuple_bool, E3.isi_tuple_int, E3.isi_tuple_str, E3.isi_tuple_list, E3.isi_tuple_tuple, E3.isN_none, E3.ntN_none, E3.isN_bool, E3.ntN_bool, E3.isN_int, E3.ntN_int, E3.isN_str, E3.ntN_str, E3.isN_list, E3.ntN_list, E3.isN_tuple, E3.ntN_tuple, E3.len_list, E3.len_tup, E3.seq_list, E3.seq_tup, E3.tup_list, E3.tup_tup, E3.lst_list, E3.lst_tup, xM, xV, xB, xTB, x2, xAnd, xNil, xCons, xTup, xLst, xCall, xSl, xPotd, ownXd, potKd, ePotE, dropKV, fnPd, startPd, endPd, slL, eSlL, xPot, ownX, potK, XR.bind_ok, XR.bind_exc, XR.bind_stuck, XR.of_ok, XR.of_exc, XR.of_stuck, thenX_ok, thenX_exc, thenX_stuck, qSet, qRet, qIf, qAsg, qForR, qFor, H70.fR_i, H70.fR_b, H70.fR_ii, H70.fR_c, fnP, startP, endP, fnL, startL, endL, xPotL, xLast, fnN, endN, E3.ix_lst0, Int.cast_ofNat_Int])
local macro_rules | `(tactic| walk_at "evs") => `(tactic| try simp (disch := first | decide | decide +kernel | omega) only [fnD, xOr, xNot, startF, endF, sSeq, sAsg, sSet, sSetV, sAsgV, sIf, sRet, sNew, sNewV, sMut, sMutV, sFor, sForR, sFreeze, sNil, sExpr, optK, thenR_ok, thenR_exc, thenR_stuck,
  view, mask, E3.eVar_zero, E3.eVar_succ, eC, e1, e2, eCall, eTup, eLst, eSl, oNone, oSome, eAnd, eOr, eIf, E3.tAnd, E3.tOr, E3.tNot, E3.tB, asB, notD, aNil, aCons, Res.bind_ok, Res.bind_exc, Res.bind_stuck,
  gT, gsCons, gsNil, gN, tupD, lstD, Slot.dat, Slot.shd, List.length_cons, List.length_nil, List.map_cons, List.map_nil, List.replicate, List.append_nil, List.cons_append, List.nil_append, Option.map_some, Option.map_none, Option.bind_some, Option.bind_none,
  List.getElem?_cons_zero, List.getElem?_cons_succ, List.set_cons_zero, List.set_cons_succ, Nat.reduceAdd, Nat.reduceSub, Nat.reduceEqDiff, if_true, if_false, ite_true, ite_false, reduceIte, decide_true, decide_false, reduceCtorEq, Bool.not_true, Bool.not_false, Bool.false_eq_true, Bool.true_eq_false, Bool.or_true, Bool.true_or, Bool.false_or, Bool.or_false, Bool.and_true, Bool.and_false, Bool.true_and, Bool.false_and, addI, subI, ltI, leI, gtI, geI, eqI, neI, E3.negI, ix_cell0, ix_cell1, E3.le0, E3.le1, E3.le2, E3.le3, E3.le4, E3.le5, E3.le6, beq_self_eq_true, Int.reduceBEq, E3.divmodI, E3.modI, E3.fdivI, E3.powL, E3.mulLL, E3.isi_bool_none, E3.isi_bool_bool, E3.isi_bool_int, E3.isi_bool_str, E3.isi_bool_list, E3.isi_bool_tuple, E3.isi_int_none, E3.isi_int_bool, E3.isi_int_int, E3.isi_int_str, E3.isi_int_list, E3.isi_int_tuple, E3.isi_str_none, E3.isi_str_bool, E3.isi_str_int, E3.isi_str_str, E3.isi_str_list, E3.isi_str_tuple, E3.isi_list_none, E3.isi_list_bool, E3.isi_list_int, E3.isi_list_str, E3.isi_list_list, E3.isi_list_tuple, E3.isi_tuple_none, E3.isi_tuple_bool, E3.isi_tuple_int, E3.isi_tuple_str, E3.isi_tuple_list, E3.isi_tuple_tuple, E3.isN_none, E3.ntN_none, E3.isN_bool, E3.ntN_bool, E3.isN_int, E3.ntN_int, E3.isN_str, E3.ntN_str, E3.isN_list, E3.ntN_list, E3.isN_tuple, E3.ntN_tuple, E3.len_list, E3.len_tup, E3.seq_list, E3.seq_tup, E3.tup_list, E3.tup_tup, E3.lst_list, E3.lst_tup, xM, xV, xB, xTB, x2, xAnd, xNil, xCons, xTup, xLst, xCall, xSl, xPotd, ownXd, potKd, ePotE, dropKV, fnPd, startPd, endPd, slL, eSlL, xPot, ownX, potK, XR.bind_ok, XR.bind_exc, XR.bind_stuck, XR.of_ok, XR.of_exc, XR.of_stuck, thenX_ok, thenX_exc, thenX_stuck, qSet, qRet, qIf, qAsg, qForR, qFor, H70.fR_i, H70.fR_b, H70.fR_ii, H70.fR_c, fnP, startP, endP, fnL, startL, endL, xPotL, xLast, fnN, endN, E3.ix_lst0, Int.cast_ofNat_Int, *])
end H70
namespace H20
open PySem PySem.Spec PyProof.Rows L2 E3
local macro_rules | `(tactic| walk_at "ev") => `(tactic| try simp (disch := first | decide | decide +kernel | omega) only [fnD, startF, endF, sSeq, sAsg, sSet, sSetV, sAsgV, sIf, sRet, sNew, sNewV, sMut, sMutV, sFor, sForR, sFreeze, sNil, sExpr, optK, thenR_ok, thenR_exc, thenR_stuck,
  view, mask, E3.eVar_zero, E3.eVar_succ, eC, e1, e2, eCall, eTup, eLst, eSl, oNone, oSome, eAnd, eOr, eIf, E3.tAnd, E3.tOr, E3.tNot, E3.tB, asB, notD, aNil, aCons, Res.bind_ok, Res.bind_exc, Res.bind_stuck,
  gT, gsCons, gsNil, gN, tupD, lstD, Slot.dat, Slot.shd, List.length_cons, List.length_nil, List.map_cons, List.map_nil, List.replicate, List.append_nil, List.cons_append, List.nil_append, Option.map_some, Option.map_none, Option.bind_some, Option.bind_none,
  List.getElem?_cons_zero, List.getElem?_cons_succ, List.set_cons_zero, List.set_cons_succ, Nat.reduceAdd, Nat.reduceSub, Nat.reduceEqDiff, if_true, if_false, ite_true, ite_false, reduceIte, decide_true, decide_false, reduceCtorEq, Bool.not_true, Bool.not_false, Bool.false_eq_true, Bool.true_eq_false, Bool.or_true, Bool.true_or, Bool.false_or, Bool.or_false, Bool.and_true, Bool.and_false, Bool.true_and, Bool.false_and, addI, subI, ltI, leI, gtI, geI, eqI, neI, E3.negI, ix_cell0, ix_cell1, E3.le0, E3.le1, E3.le2, E3.le3, E3.le4, E3.le5, E3.le6, beq_self_eq_true, E3.divmodI, E3.modI, E3.fdivI, E3.powL, E3.mulLL, E3.isi_bool_none, E3.isi_bool_bool, E3.isi_bool_int, E3.isi_bool_str, E3.isi_bool_list, E3.isi_bool_tuple, E3.isi_int_none, E3.isi_int_bool, E3.isi_int_int, E3.isi_int_str, E3.isi_int_list, E3.isi_int_tuple, E3.isi_str_none, E3.isi_str_bool, E3.isi_str_int, E3.isi_str_str, E3.isi_str_list, E3.isi_str_tuple, E3.isi_list_none, E3.isi_list_bool, E3.isi_list_int, E3.isi_list_str, E3.isi_list_list, E3.isi_list_tuple, E3.isi_tuple_none, E3.isi_tuple_bool, E3.isi_tuple_int, E3.isi_tuple_str, E3.isi_tuple_list, E3.isi_tuple_tuple, E3.isN_none, E3.ntN_none, E3.isN_bool, E3.ntN_bool, E3.isN_int, E3.ntN_int, E3.isN_str, E3.ntN_str, E3.isN_list, E3.ntN_list, E3.isN_tuple, E3.ntN_tuple, E3.len_list, E3.len_tup, E3.seq_list, E3.seq_tup, E3.tup_list, E3.tup_tup, E3.lst_list, E3.lst_tup])
def D_law_kept : List D → Res D := fnD 2 2 (sRet (eTup (aCons (eCall max2D (aCons (e1 negD (e2 powD (eC (.int 10)) (eC (.int 12)))) (aCons (eCall min2D (aCons (e2 powD (eC (.int 10)) (eC (.int 12))) (aCons (eVar 0) aNil))) aNil))) (aCons (eCall max2D (aCons (e1 negD (e2 powD (eC (.int 10)) (eC (.int 12)))) (aCons (eCall min2D (aCons (e2 powD (eC (.int 10)) (eC (.int 12))) (aCons (eVar 1) aNil))) aNil))) aNil))))
def inF (p : Int × Int) : Prop := (-1000000000000 ≤ p.1 ∧ p.1 ≤ 1000000000000) ∧ (-1000000000000 ≤ p.2 ∧ p.2 ≤ 1000000000000)
def kp (r : Int) : Int := if (if r < 1000000000000 then r else 1000000000000) > -1000000000000 then (if r < 1000000000000 then r else 1000000000000) else -1000000000000
theorem kp_in (r : Int) : -1000000000000 ≤ kp r ∧ kp r ≤ 1000000000000 := by
  unfold kp
  split <;> split <;> omega
theorem kept_ok (r c : Int) : D_law_kept [.int r, .int c] = .ok (cellD (kp r, kp c)) := by
  have m1 : ∀ i j : Int, min2D [.int i, .int j] = .ok (.int (if j < i then j else i)) := fun _ _ => rfl
  have m2 : ∀ i j : Int, max2D [.int i, .int j] = .ok (.int (if j > i then j else i)) := fun _ _ => rfl
  unfold D_law_kept
  walk_at "ev"
  rw [m1]
  walk_at "ev"
  rw [m2]
  walk_at "ev"
  rw [m1]
  walk_at "ev"
  rw [m2]
  walk_at "ev"
  rfl
theorem inF_kp (r c : Int) : inF (kp r, kp c) := ⟨kp_in r, kp_in c⟩
abbrev hS (n : Int) (P : List (Int × Int)) (m w : Int) (b : Int × Int) (qs : List (Int × Int)) (x6 x7 x8 x9 x10 x11 : Option Slot) : SS :=
  [some (.sh (.int n)), some (.sh (tupC P)), some (.sh (.int m)), some (.sh (.int w)), some (.sh (cellD b)), some (.ow (.dict (dctT qs))), x6, x7, x8, x9, x10, x11]
variable {P : List (Int × Int)} {m w : Int} {b : Int × Int}
def cutC (qs : List (Int × Int)) (p : Int × Int) : List (Int × Int) := qs.filter fun q => !decide (q = p)
theorem drop_dct (qs : List (Int × Int)) (p : Int × Int) : dropD (dctT qs) (kOf p) = dctT (cutC qs p) := by
  induction qs with
  | nil => rfl
  | cons q qs ih =>
    have e : dctT (q :: qs) = (cellD q, .bool true) :: dctT qs := rfl
    unfold dropD cutC at *
    rw [e, List.filter_cons, List.filter_cons, ih]
    by_cases h : q = p
    · subst h
      rw [if_neg (by rw [key_cell]; simp), if_neg (by simp)]
    · have h1 : ¬ kOf q = kOf p := fun z => h (kOf_eq.mp z)
      rw [if_pos (by rw [key_cell]; exact decide_eq_true fun z => h1 (Option.some.inj z)), if_pos (by rw [decide_eq_false h]; rfl)]
      rfl
end H20
namespace H70
open PySem PySem.Spec PyProof.Rows L2 E3 
local macro_rules | `(tactic| walk_at "ev") => `(tactic| try simp (disch := first | decide | decide +kernel | omega) only [fnD, xOr, xNot, startF, endF, sSeq, sAsg, sSet, sSetV, sAsgV, sIf, sRet, sNew, sNewV, sMut, sMutV, sFor, sForR, sFreeze, sNil, sExpr, optK, thenR_ok, thenR_exc, thenR_stuck,
  view, mask, E3.eVar_zero, E3.eVar_succ, eC, e1, e2, eCall, eTup, eLst, eSl, oNone, oSome, eAnd, eOr, eIf, E3.tAnd, E3.tOr, E3.tNot, E3.tB, asB, notD, aNil, aCons, Res.bind_ok, Res.bind_exc, Res.bind_stuck,
  gT, gsCons, gsNil, gN, tupD, lstD, Slot.dat, Slot.shd, List.length_cons, List.length_nil, List.map_cons, List.map_nil, List.replicate, List.append_nil, List.cons_append, List.nil_append, Option.map_some, Option.map_none, Option.bind_some, Option.bind_none,
  List.getElem?_cons_zero, List.getElem?_cons_succ, List.set_cons_zero, List.set_cons_succ, Nat.reduceAdd, Nat.reduceSub, Nat.reduceEqDiff, if_true, if_false, ite_true, ite_false, reduceIte, decide_true, decide_false, reduceCtorEq, Bool.not_true, Bool.not_false, Bool.false_eq_true, Bool.true_eq_false, Bool.or_true, Bool.true_or, Bool.false_or, Bool.or_false, Bool.and_true, Bool.and_false, Bool.true_and, Bool.false_and, addI, subI, ltI, leI, gtI, geI, eqI, neI, E3.negI, ix_cell0, ix_cell1, E3.le0, E3.le1, E3.le2, E3.le3, E3.le4, E3.le5, E3.le6, beq_self_eq_true, Int.reduceBEq, E3.divmodI, E3.modI, E3.fdivI, E3.powL, E3.mulLL, E3.isi_bool_none, E3.isi_bool_bool, E3.isi_bool_int, E3.isi_bool_str, E3.isi_bool_list, E3.isi_bool_tuple, E3.isi_int_none, E3.isi_int_bool, E3.isi_int_int, E3.isi_int_str, E3.isi_int_list, E3.isi_int_tuple, E3.isi_str_none, E3.isi_str_bool, E3.isi_str_int, E3.isi_str_str, E3.isi_str_list, E3.isi_str_tuple, E3.isi_list_none, E3.isi_list_bool, E3.isi_list_int, E3.isi_list_str, E3.isi_list_list, E3.isi_list_tuple, E3.isi_tuple_none, E3.isi_tuple_bool, E3.isi_tuple_int, E3.isi_tuple_str, E3.isi_tuple_list, E3.isi_tuple_tuple, E3.isN_none, E3.ntN_none, E3.isN_bool, E3.ntN_bool, E3.isN_int, E3.ntN_int, E3.isN_str, E3.ntN_str, E3.isN_list, E3.ntN_list, E3.isN_tuple, E3.ntN_tuple, E3.len_list, E3.len_tup, E3.seq_list, E3.seq_tup, E3.tup_list, E3.tup_tup, E3.lst_list, E3.lst_tup, xM, xV, xB, xTB, x2, xAnd, xNil, xCons, xTup, xLst, xCall, xSl, xPotd, ownXd, potKd, ePotE, dropKV, fnPd, startPd, endPd, slL, eSlL, xPot, ownX, potK, XR.bind_ok, XR.bind_exc, XR.bind_stuck, XR.of_ok, XR.of_exc, XR.of_stuck, thenX_ok, thenX_exc, thenX_stuck, qSet, qRet, qIf, qAsg, qForR, qFor, H70.fR_i, H70.fR_b, H70.fR_ii, H70.fR_c, fnP, startP, endP, fnL, startL, endL, xPotL, xLast, fnN, endN, E3.ix_lst0, Int.cast_ofNat_Int])
local macro_rules | `(tactic| walk_at "evs") => `(tactic| try simp (disch := first | decide | decide +kernel | omega) only [fnD, xOr, xNot, startF, endF, sSeq, sAsg, sSet, sSetV, sAsgV, sIf, sRet, sNew, sNewV, sMut, sMutV, sFor, sForR, sFreeze, sNil, sExpr, optK, thenR_ok, thenR_exc, thenR_stuck,
  view, mask, E3.eVar_zero, E3.eVar_succ, eC, e1, e2, eCall, eTup, eLst, eSl, oNone, oSome, eAnd, eOr, eIf, E3.tAnd, E3.tOr, E3.tNot, E3.tB, asB, notD, aNil, aCons, Res.bind_ok, Res.bind_exc, Res.bind_stuck,
  gT, gsCons, gsNil, gN, tupD, lstD, Slot.dat, Slot.shd, List.length_cons, List.length_nil, List.map_cons, List.map_nil, List.replicate, List.append_nil, List.cons_append, List.nil_append, Option.map_some, Option.map_none, Option.bind_some, Option.bind_none,
  List.getElem?_cons_zero, List.getElem?_cons_succ, List.set_cons_zero, List.set_cons_succ, Nat.reduceAdd, Nat.reduceSub, Nat.reduceEqDiff, if_true, if_false, ite_true, ite_false, reduceIte, decide_true, decide_false, reduceCtorEq, Bool.not_true, Bool.not_false, Bool.false_eq_true, Bool.true_eq_false, Bool.or_true, Bool.true_or, Bool.false_or, Bool.or_false, Bool.and_true, Bool.and_false, Bool.true_and, Bool.false_and, addI, subI, ltI, leI, gtI, geI, eqI, neI, E3.negI, ix_cell0, ix_cell1, E3.le0, E3.le1, E3.le2, E3.le3, E3.le4, E3.le5, E3.le6, beq_self_eq_true, Int.reduceBEq, E3.divmodI, E3.modI, E3.fdivI, E3.powL, E3.mulLL, E3.isi_bool_none, E3.isi_bool_bool, E3.isi_bool_int, E3.isi_bool_str, E3.isi_bool_list, E3.isi_bool_tuple, E3.isi_int_none, E3.isi_int_bool, E3.isi_int_int, E3.isi_int_str, E3.isi_int_list, E3.isi_int_tuple, E3.isi_str_none, E3.isi_str_bool, E3.isi_str_int, E3.isi_str_str, E3.isi_str_list, E3.isi_str_tuple, E3.isi_list_none, E3.isi_list_bool, E3.isi_list_int, E3.isi_list_str, E3.isi_list_list, E3.isi_list_tuple, E3.isi_tuple_none, E3.isi_tuple_bool, E3.isi_tuple_int, E3.isi_tuple_str, E3.isi_tuple_list, E3.isi_tuple_tuple, E3.isN_none, E3.ntN_none, E3.isN_bool, E3.ntN_bool, E3.isN_int, E3.ntN_int, E3.isN_str, E3.ntN_str, E3.isN_list, E3.ntN_list, E3.isN_tuple, E3.ntN_tuple, E3.len_list, E3.len_tup, E3.seq_list, E3.seq_tup, E3.tup_list, E3.tup_tup, E3.lst_list, E3.lst_tup, xM, xV, xB, xTB, x2, xAnd, xNil, xCons, xTup, xLst, xCall, xSl, xPotd, ownXd, potKd, ePotE, dropKV, fnPd, startPd, endPd, slL, eSlL, xPot, ownX, potK, XR.bind_ok, XR.bind_exc, XR.bind_stuck, XR.of_ok, XR.of_exc, XR.of_stuck, thenX_ok, thenX_exc, thenX_stuck, qSet, qRet, qIf, qAsg, qForR, qFor, H70.fR_i, H70.fR_b, H70.fR_ii, H70.fR_c, fnP, startP, endP, fnL, startL, endL, xPotL, xLast, fnN, endN, E3.ix_lst0, Int.cast_ofNat_Int, *])
noncomputable section
def rangeI (a b : Int) : List Int := (List.range (b - a).toNat).map fun (i : Nat) => a + i
def rowK (ps : List Pt) (cs : List Int) (r : Int) : List Pt := (cs.map fun c => (r, c)).filter fun p => !decide (p ∈ ps)
def lackF (ps : List Pt) (rs cs : List Int) : List Pt := rs.flatMap (rowK ps cs)
theorem forS_exc {p : GF} {body : SF} {d : D} {ds : List D} {σ σ1 σ2 : SS} {x : Exn} (h1 : p d σ = some σ1) (h2 : body σ1 = .exc x σ2) : forS p body (d :: ds) σ = .exc x σ2 := by
  rw [forS]
  simp only [h1, h2]
end
end H70
namespace H70
open PySem PySem.Spec PyProof.Rows L2 E3 
local macro_rules | `(tactic| walk_at "ev") => `(tactic| try simp (disch := first | decide | decide +kernel | omega) only [fnD, xOr, xNot, startF, endF, sSeq, sAsg, sSet, sSetV, sAsgV, sIf, sRet, sNew, sNewV, sMut, sMutV, sFor, sForR, sFreeze, sNil, sExpr, optK, thenR_ok, thenR_exc, thenR_stuck,
  view, mask, E3.eVar_zero, E3.eVar_succ, eC, e1, e2, eCall, eTup, eLst, eSl, oNone, oSome, eAnd, eOr, eIf, E3.tAnd, E3.tOr, E3.tNot, E3.tB, asB, notD, aNil, aCons, Res.bind_ok, Res.bind_exc, Res.bind_stuck,
  gT, gsCons, gsNil, gN, tupD, lstD, Slot.dat, Slot.shd, List.length_cons, List.length_nil, List.map_cons, List.map_nil, List.replicate, List.append_nil, List.cons_append, List.nil_append, Option.map_some, Option.map_none, Option.bind_some, Option.bind_none,
  List.getElem?_cons_zero, List.getElem?_cons_succ, List.set_cons_zero, List.set_cons_succ, Nat.reduceAdd, Nat.reduceSub, Nat.reduceEqDiff, if_true, if_false, ite_true, ite_false, reduceIte, decide_true, decide_false, reduceCtorEq, Bool.not_true, Bool.not_false, Bool.false_eq_true, Bool.true_eq_false, Bool.or_true, Bool.true_or, Bool.false_or, Bool.or_false, Bool.and_true, Bool.and_false, Bool.true_and, Bool.false_and, addI, subI, ltI, leI, gtI, geI, eqI, neI, E3.negI, ix_cell0, ix_cell1, E3.le0, E3.le1, E3.le2, E3.le3, E3.le4, E3.le5, E3.le6, beq_self_eq_true, Int.reduceBEq, E3.divmodI, E3.modI, E3.fdivI, E3.powL, E3.mulLL, E3.isi_bool_none, E3.isi_bool_bool, E3.isi_bool_int, E3.isi_bool_str, E3.isi_bool_list, E3.isi_bool_tuple, E3.isi_int_none, E3.isi_int_bool, E3.isi_int_int, E3.isi_int_str, E3.isi_int_list, E3.isi_int_tuple, E3.isi_str_none, E3.isi_str_bool, E3.isi_str_int, E3.isi_str_str, E3.isi_str_list, E3.isi_str_tuple, E3.isi_list_none, E3.isi_list_bool, E3.isi_list_int, E3.isi_list_str, E3.isi_list_list, E3.isi_list_tuple, E3.isi_tuple_none, E3.isi_tuple_bool, E3.isi_tuple_int, E3.isi_tuple_str, E3.isi_tuple_list, E3.isi_tuple_tuple, E3.isN_none, E3.ntN_none, E3.isN_bool, E3.ntN_bool, E3.isN_int, E3.ntN_int, E3.isN_str, E3.ntN_str, E3.isN_list, E3.ntN_list, E3.isN_tuple, E3.ntN_tuple, E3.len_list, E3.len_tup, E3.seq_list, E3.seq_tup, E3.tup_list, E3.tup_tup, E3.lst_list, E3.lst_tup, xM, xV, xB, xTB, x2, xAnd, xNil, xCons, xTup, xLst, xCall, xSl, xPotd, ownXd, potKd, ePotE, dropKV, fnPd, startPd, endPd, slL, eSlL, xPot, ownX, potK, XR.bind_ok, XR.bind_exc, XR.bind_stuck, XR.of_ok, XR.of_exc, XR.of_stuck, thenX_ok, thenX_exc, thenX_stuck, qSet, qRet, qIf, qAsg, qForR, qFor, H70.fR_i, H70.fR_b, H70.fR_ii, H70.fR_c, fnP, startP, endP, fnL, startL, endL, xPotL, xLast, fnN, endN, E3.ix_lst0, Int.cast_ofNat_Int])
local macro_rules | `(tactic| walk_at "evs") => `(tactic| try simp (disch := first | decide | decide +kernel | omega) only [fnD, xOr, xNot, startF, endF, sSeq, sAsg, sSet, sSetV, sAsgV, sIf, sRet, sNew, sNewV, sMut, sMutV, sFor, sForR, sFreeze, sNil, sExpr, optK, thenR_ok, thenR_exc, thenR_stuck,
  view, mask, E3.eVar_zero, E3.eVar_succ, eC, e1, e2, eCall, eTup, eLst, eSl, oNone, oSome, eAnd, eOr, eIf, E3.tAnd, E3.tOr, E3.tNot, E3.tB, asB, notD, aNil, aCons, Res.bind_ok, Res.bind_exc, Res.bind_stuck,
  gT, gsCons, gsNil, gN, tupD, lstD, Slot.dat, Slot.shd, List.length_cons, List.length_nil, List.map_cons, List.map_nil, List.replicate, List.append_nil, List.cons_append, List.nil_append, Option.map_some, Option.map_none, Option.bind_some, Option.bind_none,
  List.getElem?_cons_zero, List.getElem?_cons_succ, List.set_cons_zero, List.set_cons_succ, Nat.reduceAdd, Nat.reduceSub, Nat.reduceEqDiff, if_true, if_false, ite_true, ite_false, reduceIte, decide_true, decide_false, reduceCtorEq, Bool.not_true, Bool.not_false, Bool.false_eq_true, Bool.true_eq_false, Bool.or_true, Bool.true_or, Bool.false_or, Bool.or_false, Bool.and_true, Bool.and_false, Bool.true_and, Bool.false_and, addI, subI, ltI, leI, gtI, geI, eqI, neI, E3.negI, ix_cell0, ix_cell1, E3.le0, E3.le1, E3.le2, E3.le3, E3.le4, E3.le5, E3.le6, beq_self_eq_true, Int.reduceBEq, E3.divmodI, E3.modI, E3.fdivI, E3.powL, E3.mulLL, E3.isi_bool_none, E3.isi_bool_bool, E3.isi_bool_int, E3.isi_bool_str, E3.isi_bool_list, E3.isi_bool_tuple, E3.isi_int_none, E3.isi_int_bool, E3.isi_int_int, E3.isi_int_str, E3.isi_int_list, E3.isi_int_tuple, E3.isi_str_none, E3.isi_str_bool, E3.isi_str_int, E3.isi_str_str, E3.isi_str_list, E3.isi_str_tuple, E3.isi_list_none, E3.isi_list_bool, E3.isi_list_int, E3.isi_list_str, E3.isi_list_list, E3.isi_list_tuple, E3.isi_tuple_none, E3.isi_tuple_bool, E3.isi_tuple_int, E3.isi_tuple_str, E3.isi_tuple_list, E3.isi_tuple_tuple, E3.isN_none, E3.ntN_none, E3.isN_bool, E3.ntN_bool, E3.isN_int, E3.ntN_int, E3.isN_str, E3.ntN_str, E3.isN_list, E3.ntN_list, E3.isN_tuple, E3.ntN_tuple, E3.len_list, E3.len_tup, E3.seq_list, E3.seq_tup, E3.tup_list, E3.tup_tup, E3.lst_list, E3.lst_tup, xM, xV, xB, xTB, x2, xAnd, xNil, xCons, xTup, xLst, xCall, xSl, xPotd, ownXd, potKd, ePotE, dropKV, fnPd, startPd, endPd, slL, eSlL, xPot, ownX, potK, XR.bind_ok, XR.bind_exc, XR.bind_stuck, XR.of_ok, XR.of_exc, XR.of_stuck, thenX_ok, thenX_exc, thenX_stuck, qSet, qRet, qIf, qAsg, qForR, qFor, H70.fR_i, H70.fR_b, H70.fR_ii, H70.fR_c, fnP, startP, endP, fnL, startL, endL, xPotL, xLast, fnN, endN, E3.ix_lst0, Int.cast_ofNat_Int, *])
structure Box where
  a : Int
  b : Int
  c : Int
  d : Int
namespace Box
variable (B : Box)
def lk (S : List Pt) : List Pt := lackF S (rangeI B.a B.b) (rangeI B.c B.d)
def F (S : List Pt) : Int := 4 * (nr aroundL S : Int) - 4 * (nr sidesL (B.lk S) : Int) + 4 - surN S
end Box
def Box.whole (B : Box) : List Pt := lackF [] (rangeI (B.a + 1) (B.b - 1)) (rangeI (B.c + 1) (B.d - 1))
end H70
namespace H70
open PySem PySem.Spec PyProof.Rows L2 E3 
local macro_rules | `(tactic| walk_at "ev") => `(tactic| try simp (disch := first | decide | decide +kernel | omega) only [fnD, xOr, xNot, startF, endF, sSeq, sAsg, sSet, sSetV, sAsgV, sIf, sRet, sNew, sNewV, sMut, sMutV, sFor, sForR, sFreeze, sNil, sExpr, optK, thenR_ok, thenR_exc, thenR_stuck,
  view, mask, E3.eVar_zero, E3.eVar_succ, eC, e1, e2, eCall, eTup, eLst, eSl, oNone, oSome, eAnd, eOr, eIf, E3.tAnd, E3.tOr, E3.tNot, E3.tB, asB, notD, aNil, aCons, Res.bind_ok, Res.bind_exc, Res.bind_stuck,
  gT, gsCons, gsNil, gN, tupD, lstD, Slot.dat, Slot.shd, List.length_cons, List.length_nil, List.map_cons, List.map_nil, List.replicate, List.append_nil, List.cons_append, List.nil_append, Option.map_some, Option.map_none, Option.bind_some, Option.bind_none,
  List.getElem?_cons_zero, List.getElem?_cons_succ, List.set_cons_zero, List.set_cons_succ, Nat.reduceAdd, Nat.reduceSub, Nat.reduceEqDiff, if_true, if_false, ite_true, ite_false, reduceIte, decide_true, decide_false, reduceCtorEq, Bool.not_true, Bool.not_false, Bool.false_eq_true, Bool.true_eq_false, Bool.or_true, Bool.true_or, Bool.false_or, Bool.or_false, Bool.and_true, Bool.and_false, Bool.true_and, Bool.false_and, addI, subI, ltI, leI, gtI, geI, eqI, neI, E3.negI, ix_cell0, ix_cell1, E3.le0, E3.le1, E3.le2, E3.le3, E3.le4, E3.le5, E3.le6, beq_self_eq_true, Int.reduceBEq, E3.divmodI, E3.modI, E3.fdivI, E3.powL, E3.mulLL, E3.isi_bool_none, E3.isi_bool_bool, E3.isi_bool_int, E3.isi_bool_str, E3.isi_bool_list, E3.isi_bool_tuple, E3.isi_int_none, E3.isi_int_bool, E3.isi_int_int, E3.isi_int_str, E3.isi_int_list, E3.isi_int_tuple, E3.isi_str_none, E3.isi_str_bool, E3.isi_str_int, E3.isi_str_str, E3.isi_str_list, E3.isi_str_tuple, E3.isi_list_none, E3.isi_list_bool, E3.isi_list_int, E3.isi_list_str, E3.isi_list_list, E3.isi_list_tuple, E3.isi_tuple_none, E3.isi_tuple_bool, E3.isi_tuple_int, E3.isi_tuple_str, E3.isi_tuple_list, E3.isi_tuple_tuple, E3.isN_none, E3.ntN_none, E3.isN_bool, E3.ntN_bool, E3.isN_int, E3.ntN_int, E3.isN_str, E3.ntN_str, E3.isN_list, E3.ntN_list, E3.isN_tuple, E3.ntN_tuple, E3.len_list, E3.len_tup, E3.seq_list, E3.seq_tup, E3.tup_list, E3.tup_tup, E3.lst_list, E3.lst_tup, xM, xV, xB, xTB, x2, xAnd, xNil, xCons, xTup, xLst, xCall, xSl, xPotd, ownXd, potKd, ePotE, dropKV, fnPd, startPd, endPd, slL, eSlL, xPot, ownX, potK, XR.bind_ok, XR.bind_exc, XR.bind_stuck, XR.of_ok, XR.of_exc, XR.of_stuck, thenX_ok, thenX_exc, thenX_stuck, qSet, qRet, qIf, qAsg, qForR, qFor, H70.fR_i, H70.fR_b, H70.fR_ii, H70.fR_c, fnP, startP, endP, fnL, startL, endL, xPotL, xLast, fnN, endN, E3.ix_lst0, Int.cast_ofNat_Int])
local macro_rules | `(tactic| walk_at "evs") => `(tactic| try simp (disch := first | decide | decide +kernel | omega) only [fnD, xOr, xNot, startF, endF, sSeq, sAsg, sSet, sSetV, sAsgV, sIf, sRet, sNew, sNewV, sMut, sMutV, sFor, sForR, sFreeze, sNil, sExpr, optK, thenR_ok, thenR_exc, thenR_stuck,
  view, mask, E3.eVar_zero, E3.eVar_succ, eC, e1, e2, eCall, eTup, eLst, eSl, oNone, oSome, eAnd, eOr, eIf, E3.tAnd, E3.tOr, E3.tNot, E3.tB, asB, notD, aNil, aCons, Res.bind_ok, Res.bind_exc, Res.bind_stuck,
  gT, gsCons, gsNil, gN, tupD, lstD, Slot.dat, Slot.shd, List.length_cons, List.length_nil, List.map_cons, List.map_nil, List.replicate, List.append_nil, List.cons_append, List.nil_append, Option.map_some, Option.map_none, Option.bind_some, Option.bind_none,
  List.getElem?_cons_zero, List.getElem?_cons_succ, List.set_cons_zero, List.set_cons_succ, Nat.reduceAdd, Nat.reduceSub, Nat.reduceEqDiff, if_true, if_false, ite_true, ite_false, reduceIte, decide_true, decide_false, reduceCtorEq, Bool.not_true, Bool.not_false, Bool.false_eq_true, Bool.true_eq_false, Bool.or_true, Bool.true_or, Bool.false_or, Bool.or_false, Bool.and_true, Bool.and_false, Bool.true_and, Bool.false_and, addI, subI, ltI, leI, gtI, geI, eqI, neI, E3.negI, ix_cell0, ix_cell1, E3.le0, E3.le1, E3.le2, E3.le3, E3.le4, E3.le5, E3.le6, beq_self_eq_true, Int.reduceBEq, E3.divmodI, E3.modI, E3.fdivI, E3.powL, E3.mulLL, E3.isi_bool_none, E3.isi_bool_bool, E3.isi_bool_int, E3.isi_bool_str, E3.isi_bool_list, E3.isi_bool_tuple, E3.isi_int_none, E3.isi_int_bool, E3.isi_int_int, E3.isi_int_str, E3.isi_int_list, E3.isi_int_tuple, E3.isi_str_none, E3.isi_str_bool, E3.isi_str_int, E3.isi_str_str, E3.isi_str_list, E3.isi_str_tuple, E3.isi_list_none, E3.isi_list_bool, E3.isi_list_int, E3.isi_list_str, E3.isi_list_list, E3.isi_list_tuple, E3.isi_tuple_none, E3.isi_tuple_bool, E3.isi_tuple_int, E3.isi_tuple_str, E3.isi_tuple_list, E3.isi_tuple_tuple, E3.isN_none, E3.ntN_none, E3.isN_bool, E3.ntN_bool, E3.isN_int, E3.ntN_int, E3.isN_str, E3.ntN_str, E3.isN_list, E3.ntN_list, E3.isN_tuple, E3.ntN_tuple, E3.len_list, E3.len_tup, E3.seq_list, E3.seq_tup, E3.tup_list, E3.tup_tup, E3.lst_list, E3.lst_tup, xM, xV, xB, xTB, x2, xAnd, xNil, xCons, xTup, xLst, xCall, xSl, xPotd, ownXd, potKd, ePotE, dropKV, fnPd, startPd, endPd, slL, eSlL, xPot, ownX, potK, XR.bind_ok, XR.bind_exc, XR.bind_stuck, XR.of_ok, XR.of_exc, XR.of_stuck, thenX_ok, thenX_exc, thenX_stuck, qSet, qRet, qIf, qAsg, qForR, qFor, H70.fR_i, H70.fR_b, H70.fR_ii, H70.fR_c, fnP, startP, endP, fnL, startL, endL, xPotL, xLast, fnN, endN, E3.ix_lst0, Int.cast_ofNat_Int, *])
noncomputable section
def D_law_kept : List D → Res D := fnD 2 2 (sRet (eTup (aCons (eCall max2D (aCons (e1 negD (e2 powD (eC (.int 10)) (eC (.int 12)))) (aCons (eCall min2D (aCons (e2 powD (eC (.int 10)) (eC (.int 12))) (aCons (eVar 0) aNil))) aNil))) (aCons (eCall max2D (aCons (e1 negD (e2 powD (eC (.int 10)) (eC (.int 12)))) (aCons (eCall min2D (aCons (e2 powD (eC (.int 10)) (eC (.int 12))) (aCons (eVar 1) aNil))) aNil))) aNil))))
def I_law_board_1 : DS → Res (List D) := (fun σ => ((aCons (e2 addD (eVar 4) (eC (.int 1))) aNil) σ).bind rng1)
def B_law_board_1 : SF := (sSeq (sAsg (gT 2 (gsCons (gN 0) (gsCons (gN 6) gsNil))) (eCall divmodD (aCons (eVar 0) (aCons (eC (.int 25)) aNil))))
  (sPut 3 (eCall D_law_kept (aCons (e2 addD (e2 ixD (eVar 2) (eC (.int 0))) (e2 fdivD (eVar 6) (eC (.int 5)))) (aCons (e2 addD (e2 ixD (eVar 2) (eC (.int 1))) (e2 modD (eVar 6) (eC (.int 5)))) aNil))) (eC (.bool true))))
def C_law_board_1 : SF := (sFor I_law_board_1 (gN 5)
  B_law_board_1)
def C_law_board_2 : SF := (sPut 3 (eCall D_law_kept (aCons (e2 addD (e2 addD (e2 ixD (eVar 2) (eC (.int 0))) (eVar 7)) (eVar 10)) (aCons (e2 addD (e2 subD (e2 addD (e2 ixD (eVar 2) (eC (.int 1))) (e2 mulD (eC (.int 3)) (eVar 5))) (eVar 7)) (eVar 11)) aNil))) (eC (.bool true)))
def I_law_board_2 : DS → Res (List D) := (fun σ => ((aCons (e2 addD (eC (.int 1)) (eVar 9)) aNil) σ).bind rng1)
def B_law_board_2 : SF := (sIf (E3.tOr (tB (e2 inG (eVar 10) (eTup (aCons (eC (.int 0)) (aCons (eVar 8) aNil))))) (tB (e2 inG (eVar 11) (eTup (aCons (eC (.int 0)) (aCons (eVar 9) aNil)))))) C_law_board_2 sNil)
def I_law_board_3 : DS → Res (List D) := (fun σ => ((aCons (e2 addD (eC (.int 1)) (eVar 8)) aNil) σ).bind rng1)
def B_law_board_3 : SF := (sFor I_law_board_2 (gN 11)
  B_law_board_2)
def I_law_board_4 : DS → Res (List D) := (fun σ => ((aCons (e2 addD (eC (.int 1)) (e2 modD (eVar 4) (eC (.int 3)))) aNil) σ).bind rng1)
def B_law_board_4 : SF := (sSeq (sAsg (gT 2 (gsCons (gN 0) (gsCons (gN 7) gsNil))) (eCall divmodD (aCons (eVar 0) (aCons (eC (.int 4)) aNil))))
  (sSeq (sAsg (gT 2 (gsCons (gN 0) (gsCons (gN 8) gsNil))) (eCall divmodD (aCons (eVar 0) (aCons (eC (.int 5)) aNil))))
  (sSeq (sAsg (gT 2 (gsCons (gN 0) (gsCons (gN 9) gsNil))) (eCall divmodD (aCons (eVar 0) (aCons (eC (.int 5)) aNil))))
  (sFor I_law_board_3 (gN 10)
  B_law_board_3))))
def C_law_board_3 : SF := (sFor I_law_board_4 (gN 5)
  B_law_board_4)
def C_law_board_4 : SF := (sPut 3 (eCall D_law_kept (aCons (e2 addD (e2 ixD (eVar 2) (eC (.int 0))) (eVar 10)) (aCons (e2 addD (e2 ixD (eVar 2) (eC (.int 1))) (eVar 11)) aNil))) (eC (.bool true)))
def I_law_board_5 : DS → Res (List D) := (fun σ => ((aCons (eC (.int 6)) aNil) σ).bind rng1)
def B_law_board_5 : SF := (sIf (tB (e2 eqD (e2 andD (e2 shrD (eVar 12) (eVar 11)) (eC (.int 1))) (eC (.int 1)))) C_law_board_4 sNil)
def I_law_board_6 : DS → Res (List D) := (fun σ => ((aCons (e2 addD (eVar 4) (eC (.int 1))) aNil) σ).bind rng1)
def B_law_board_6 : SF := (sSeq (sAsg (gT 2 (gsCons (gN 0) (gsCons (gN 12) gsNil))) (eCall divmodD (aCons (eVar 0) (aCons (eC (.int 64)) aNil))))
  (sFor I_law_board_5 (gN 11)
  B_law_board_5))
def C_law_board_5 : SF := (sFor I_law_board_6 (gN 10)
  B_law_board_6)
def I_law_board_7 : DS → Res (List D) := (fun σ => ((aCons (eCall min2D (aCons (eVar 13) (aCons (eCall lenAny (aCons (eVar 3) aNil)) aNil))) aNil) σ).bind rng1)
def B_law_board_7 : SF := (sSeq (sAsgV (gT 2 (gsCons (gN 0) (gsCons (gN 6) gsNil))) (eCall divmodD (aCons (eVar 0) (aCons (eCall lenAny (aCons (eVar 3) aNil)) aNil))))
  (sPopD 3 (aCons (e2 ixD (eCall sortAnyD (aCons (eVar 3) aNil)) (eVar 6)) aNil)))
def T_law_board_1 : SF := (sFreeze 3 (sRet (eTup (aCons (eCall tupleD (aCons (eCall sortAnyD (aCons (eVar 3) aNil)) aNil)) (aCons (eVar 0) aNil)))))
theorem kept_is : D_law_kept = H20.D_law_kept := rfl
abbrev kp := H20.kp
def near (b p : Pt) : Prop := (kp b.1 ≤ p.1 ∧ p.1 ≤ kp b.1 + 12) ∧ kp (b.2 - 4) ≤ p.2 ∧ p.2 ≤ kp (b.2 - 4) + 22
theorem kp_mono {i j k : Int} (h : i ≤ j ∧ j ≤ i + k) : kp i ≤ kp j ∧ kp j ≤ kp i + k := by
  show H20.kp i ≤ H20.kp j ∧ H20.kp j ≤ H20.kp i + k
  unfold H20.kp
  constructor <;> (repeat' split) <;> omega
structure Gd (b : Pt) (L : List Pt) : Prop where
  nd : L.Nodup
  bd : ∀ p ∈ L, H20.inF p ∧ near b p
theorem Gd.nil (b : Pt) : Gd b [] := ⟨List.nodup_nil, fun p h => by cases h⟩
theorem Gd.add {b : Pt} {L : List Pt} (h : Gd b L) (r c : Int) (hr : b.1 ≤ r ∧ r ≤ b.1 + 12) (hc : b.2 - 4 ≤ c ∧ c ≤ b.2 - 4 + 22) : Gd b (addC L (kp r, kp c)) := ⟨nd_addC h.nd, fun p hp => (mem_addC.mp hp).elim (h.bd p) fun e => by rw [e]; exact ⟨H20.inF_kp r c, kp_mono hr, kp_mono hc⟩⟩
theorem Gd.flt {b : Pt} {L : List Pt} (h : Gd b L) (f : Pt → Bool) : Gd b (L.filter f) := ⟨h.nd.filter _, fun p hp => h.bd p (List.mem_filter.mp hp).1⟩
theorem kept_ok (r c : Int) : ∃ q : Pt, D_law_kept [.int r, .int c] = .ok (cellD q) := ⟨_, by rw [kept_is]; exact H20.kept_ok r c⟩
theorem rngI {n : Int} (h : -(2 ^ 62) ≤ n ∧ n < 2 ^ 62) : rng1 [.int n] = .ok (rangeD 0 n) := if_pos h
theorem loop_cnt {p : GF} {body : SF} {Inv : Nat → SS → Prop} (m : Nat) : ∀ (ds : List D) (n : Nat) (σ : SS), Inv n σ → (∀ d ∈ ds, ∀ k, n ≤ k → k + m ≤ n + m * ds.length → ∀ σ, Inv k σ → ∃ σ1, p d σ = some σ1 ∧ SN (body σ1) (Inv (k + m))) → SN (forS p body ds σ) (Inv (n + m * ds.length))
  | [], n, σ, h, _ => ⟨σ, rfl, by simpa using h⟩
  | d :: ds, n, σ, h, st => by
    have hm : m * (d :: ds).length = m + m * ds.length := by rw [List.length_cons, Nat.mul_succ, Nat.add_comm]
    rw [hm] at st ⊢
    obtain ⟨σ1, h1, σ2, h2, h3⟩ := st d List.mem_cons_self n (Nat.le_refl _) (by omega) σ h
    obtain ⟨σ3, h4, h5⟩ := loop_cnt m ds (n + m) σ2 h3 fun e he k k1 k2 σ hk => st e (List.mem_cons_of_mem _ he) k (by omega) (by omega) σ hk
    refine ⟨σ3, (forS_cons h1 h2).trans h4, ?_⟩
    rw [← Nat.add_assoc]; exact h5
theorem SNmono {r : SR} {P Q : SS → Prop} (h : SN r P) (k : ∀ σ, P σ → Q σ) : SN r Q := SN.mono h k
theorem range_mem {n : Int} {d : D} (h : d ∈ rangeD 0 n) : ∃ i : Int, d = .int i ∧ 0 ≤ i ∧ i < n := by
  obtain ⟨i, hi, rfl⟩ := List.mem_map.mp h
  have := List.mem_range.mp hi
  exact ⟨_, rfl, by omega, by omega⟩
theorem range_len (n : Int) : (rangeD 0 n).length = n.toNat := by unfold rangeD; rw [List.length_map, List.length_range]; congr 1; omega
abbrev O := Option E3.Slot
abbrev sB (n w : Int) (b : Pt) (L : List Pt) (m : Int) (x5 x6 x7 x8 x9 x10 x11 x12 x13 : O) : SS :=
  [some (.sh (.int n)), some (.sh (.int w)), some (.sh (cellD b)), some (.ow (.dict (dctT L))), some (.sh (.int m)), x5, x6, x7, x8, x9, x10, x11, x12, x13]
def BI (w : Int) (b : Pt) (m : Int) (k : Nat) (σ : SS) : Prop := ∃ (n : Int) (L : List Pt) (x5 x6 x7 x8 x9 x10 x11 x12 x13 : O), 0 ≤ n ∧ Gd b L ∧ L.length ≤ k ∧ σ = sB n w b L m x5 x6 x7 x8 x9 x10 x11 x12 x13
theorem BI.le {w : Int} {b : Pt} {m : Int} {k j : Nat} {σ : SS} (h : BI w b m k σ) (l : k ≤ j) : BI w b m j σ := by
  obtain ⟨n, L, x5, x6, x7, x8, x9, x10, x11, x12, x13, h0, h1, h2, h3⟩ := h
  exact ⟨n, L, x5, x6, x7, x8, x9, x10, x11, x12, x13, h0, h1, by omega, h3⟩
theorem put_cell {i : Nat} {σ : SS} {L : List Pt} {q : Pt} (hl : L.length < 900000) : putS i σ (dctT L) (cellD q) (.bool true) = .ok .nx (σ.set i (some (.ow (.dict (dctT (addC L q)))))) := putS_dct (by rw [sizeLine_eq]; omega)
theorem way0 (w : Int) (b : Pt) (m : Int) (hm : 0 ≤ m ∧ m < 6) (k : Nat) (hk : k < 1000) (σ : SS) (h : BI w b m k σ) : SN (C_law_board_1 σ) (BI w b m (k + 6)) := by
  obtain ⟨n, L, x5, x6, x7, x8, x9, x10, x11, x12, x13, h0, h1, h2, rfl⟩ := h
  unfold C_law_board_1 I_law_board_1
  walk_at "ev"
  rw [rngI (by omega)]
  walk_at "ev"
  refine SNmono (loop_cnt (Inv := BI w b m) 1 (rangeD 0 (m + 1)) k _ ⟨n, L, x5, x6, x7, x8, x9, x10, x11, x12, x13, h0, h1, h2, rfl⟩ ?_) fun σ z => z.le (by rw [range_len]; omega)
  rintro d hd j j1 j2 σ ⟨n, L, x5, x6, x7, x8, x9, x10, x11, x12, x13, h0, h1, h2, rfl⟩
  rw [range_len] at j2
  refine ⟨_, rfl, ?_⟩
  unfold B_law_board_1
  walk_at "ev"
  simp only [sPut, ownD, List.getElem?_cons_succ, List.getElem?_cons_zero]
  walk_at "ev"
  rw [kept_is, H20.kept_ok]
  walk_at "ev"
  rw [put_cell (by omega)]
  exact SN.ok ⟨n / 25, addC L (kp (b.1 + n % 25 / 5), kp (b.2 + n % 25 % 5)), _, _, _, _, _, _, _, _, _, by omega, h1.add _ _ (by omega) (by omega), by have := len_addC L (kp (b.1 + n % 25 / 5), kp (b.2 + n % 25 % 5)); omega, rfl⟩
abbrev iS (i : Int) : O := some (.sh (.int i))
theorem in2 (i a c : Int) : ∃ t : Bool, inG (.int i) (.tuple [.int a, .int c]) = .ok (.bool t) := ⟨_, rfl⟩
theorem mul3 {k : Int} (h : 0 ≤ k ∧ k < 1000) : mulD (.int 3) (.int k) = .ok (.int (3 * k)) := E3.mulLL (decide_eq_true ⟨by decide, by
  have : k.natAbs < 1000 := by omega
  exact Nat.lt_trans this (by decide)⟩)
theorem box_cell (n w : Int) (b : Pt) (L : List Pt) (m k top tall wide r q : Int) (x6 x12 x13 : O) (hk : 0 ≤ k ∧ k < 1000) (h3 : k < 3 ∧ (0 ≤ top ∧ top < 4) ∧ (0 ≤ r ∧ r < 5) ∧ 0 ≤ q ∧ q < 5) (nd : Gd b L) (hl : L.length < 900000) :
    ∃ M, Gd b M ∧ M.length ≤ L.length + 1 ∧ B_law_board_2 (sB n w b L m (iS k) x6 (iS top) (iS tall) (iS wide) (iS r) (iS q) x12 x13) = .ok .nx (sB n w b M m (iS k) x6 (iS top) (iS tall) (iS wide) (iS r) (iS q) x12 x13) := by
  obtain ⟨t1, e1⟩ := in2 r 0 tall
  obtain ⟨t2, f2⟩ := in2 q 0 wide
  have go : C_law_board_2 (sB n w b L m (iS k) x6 (iS top) (iS tall) (iS wide) (iS r) (iS q) x12 x13) = .ok .nx (sB n w b (addC L (kp (b.1 + top + r), kp (b.2 + 3 * k - top + q))) m (iS k) x6 (iS top) (iS tall) (iS wide) (iS r) (iS q) x12 x13) := by
    unfold C_law_board_2
    simp only [sPut, ownD, List.getElem?_cons_succ, List.getElem?_cons_zero]
    walk_at "ev"
    rw [mul3 hk]
    walk_at "ev"
    rw [kept_is, H20.kept_ok]
    walk_at "ev"
    rw [put_cell hl]
    rfl
  have big : ∃ t : Bool, B_law_board_2 (sB n w b L m (iS k) x6 (iS top) (iS tall) (iS wide) (iS r) (iS q) x12 x13) = if t = true then C_law_board_2 (sB n w b L m (iS k) x6 (iS top) (iS tall) (iS wide) (iS r) (iS q) x12 x13) else .ok .nx (sB n w b L m (iS k) x6 (iS top) (iS tall) (iS wide) (iS r) (iS q) x12 x13) := by
    unfold B_law_board_2
    walk_at "ev"
    rw [e1]
    walk_at "ev"
    cases t1 with
    | true => exact ⟨true, by walk_at "ev"⟩
    | false =>
      walk_at "ev"
      rw [f2]
      walk_at "ev"
      exact ⟨t2, rfl⟩
  obtain ⟨t, e⟩ := big
  cases t with
  | true => exact ⟨_, nd.add _ _ (by omega) (by omega), len_addC L _, e.trans go⟩
  | false => exact ⟨L, nd, by omega, e⟩
theorem box_row (n w : Int) (b : Pt) (L : List Pt) (m k top tall wide r : Int) (x6 x11 x12 x13 : O) (hk : 0 ≤ k ∧ k < 1000) (h3 : k < 3 ∧ (0 ≤ top ∧ top < 4) ∧ (0 ≤ r ∧ r < 5)) (hw : 0 ≤ wide ∧ wide < 5) (nd : Gd b L) (hl : L.length < 800000) :
    SN (B_law_board_3 (sB n w b L m (iS k) x6 (iS top) (iS tall) (iS wide) (iS r) x11 x12 x13)) (fun σ => ∃ M y11, Gd b M ∧ M.length ≤ L.length + 5 ∧ σ = sB n w b M m (iS k) x6 (iS top) (iS tall) (iS wide) (iS r) y11 x12 x13) := by
  unfold B_law_board_3 I_law_board_2
  walk_at "ev"
  rw [rngI (by omega)]
  walk_at "ev"
  refine SNmono (loop_cnt (Inv := fun j σ => ∃ M y11, Gd b M ∧ M.length ≤ j ∧ σ = sB n w b M m (iS k) x6 (iS top) (iS tall) (iS wide) (iS r) y11 x12 x13) 1 (rangeD 0 (1 + wide)) L.length _ ⟨L, x11, nd, Nat.le_refl _, rfl⟩ ?_) ?_
  · rintro d hd j j1 j2 σ ⟨M, y11, h1, h2, rfl⟩
    rw [range_len] at j2
    obtain ⟨q, rfl, q1, q2⟩ := range_mem hd
    obtain ⟨M2, g1, g2, g3⟩ := box_cell n w b M m k top tall wide r q x6 x12 x13 hk ⟨h3.1, h3.2.1, h3.2.2, by omega⟩ h1 (by omega)
    exact ⟨_, rfl, _, g3, M2, _, g1, by omega, rfl⟩
  · rintro σ ⟨M, y11, h1, h2, h3⟩
    rw [range_len] at h2
    exact ⟨M, y11, h1, by omega, h3⟩
theorem box_rows (n w : Int) (b : Pt) (L : List Pt) (m k top tall wide : Int) (x6 x10 x11 x12 x13 : O) (hk : 0 ≤ k ∧ k < 1000) (h3 : k < 3 ∧ (0 ≤ top ∧ top < 4)) (ht : 0 ≤ tall ∧ tall < 5) (hw : 0 ≤ wide ∧ wide < 5) (nd : Gd b L) (hl : L.length < 700000) :
    SN (sFor I_law_board_3 (gN 10) B_law_board_3 (sB n w b L m (iS k) x6 (iS top) (iS tall) (iS wide) x10 x11 x12 x13)) (fun σ => ∃ M y10 y11, Gd b M ∧ M.length ≤ L.length + 25 ∧ σ = sB n w b M m (iS k) x6 (iS top) (iS tall) (iS wide) y10 y11 x12 x13) := by
  unfold I_law_board_3
  walk_at "ev"
  rw [rngI (by omega)]
  walk_at "ev"
  refine SNmono (loop_cnt (Inv := fun j σ => ∃ M y10 y11, Gd b M ∧ M.length ≤ j ∧ σ = sB n w b M m (iS k) x6 (iS top) (iS tall) (iS wide) y10 y11 x12 x13) 5 (rangeD 0 (1 + tall)) L.length _ ⟨L, x10, x11, nd, Nat.le_refl _, rfl⟩ ?_) ?_
  · rintro d hd j j1 j2 σ ⟨M, y10, y11, h1, h2, rfl⟩
    rw [range_len] at j2
    obtain ⟨q, rfl, q1, q2⟩ := range_mem hd
    refine ⟨_, rfl, SNmono (box_row n w b M m k top tall wide q x6 y11 x12 x13 hk ⟨h3.1, h3.2, by omega⟩ hw h1 (by omega)) ?_⟩
    rintro σ ⟨M2, y, g1, g2, g3⟩
    exact ⟨M2, _, y, g1, by omega, g3⟩
  · rintro σ ⟨M, y10, y11, h1, h2, h3⟩
    rw [range_len] at h2
    exact ⟨M, y10, y11, h1, by omega, h3⟩
theorem way1 (w : Int) (b : Pt) (m : Int) (hm : 0 ≤ m ∧ m < 6) (k : Nat) (hk : k < 1000) (σ : SS) (h : BI w b m k σ) : SN (C_law_board_3 σ) (BI w b m (k + 75)) := by
  obtain ⟨n, L, x5, x6, x7, x8, x9, x10, x11, x12, x13, h0, h1, h2, rfl⟩ := h
  unfold C_law_board_3 I_law_board_4
  walk_at "ev"
  generalize hm3 : m % 3 = m3
  rw [rngI (by omega)]
  walk_at "ev"
  refine SNmono (loop_cnt (Inv := BI w b m) 25 (rangeD 0 (1 + m3)) k _ ⟨n, L, x5, x6, x7, x8, x9, x10, x11, x12, x13, h0, h1, h2, rfl⟩ ?_) fun σ z => z.le (by rw [range_len]; omega)
  rintro d hd j j1 j2 σ ⟨n, L, x5, x6, x7, x8, x9, x10, x11, x12, x13, h0, h1, h2, rfl⟩
  rw [range_len] at j2
  obtain ⟨i, rfl, i1, i2⟩ := range_mem hd
  refine ⟨_, rfl, ?_⟩
  unfold B_law_board_4
  walk_at "ev"
  obtain ⟨σ2, e, M, y10, y11, g1, g2, rfl⟩ := box_rows (n / 4 / 5 / 5) w b L m i (n % 4) (n / 4 % 5) (n / 4 / 5 % 5) x6 x10 x11 x12 x13 (by omega) (by omega) (by omega) (by omega) h1 (by omega)
  rw [show sFor I_law_board_3 (gN 10) B_law_board_3 = fun σ => sFor I_law_board_3 (gN 10) B_law_board_3 σ from rfl] at e
  unfold sFor at e
  refine ⟨_, e, ?_⟩
  exact ⟨n / 4 / 5 / 5, M, _, _, _, _, _, _, _, _, _, by omega, g1, by omega, rfl⟩
theorem bit_cell (n w : Int) (b : Pt) (L : List Pt) (m r q bits : Int) (x5 x6 x7 x8 x9 x13 : O) (hq : 0 ≤ q) (h3 : q < 6 ∧ 0 ≤ r ∧ r < 7) (nd : Gd b L) (hl : L.length < 900000) :
    ∃ M, Gd b M ∧ M.length ≤ L.length + 1 ∧ B_law_board_5 (sB n w b L m x5 x6 x7 x8 x9 (iS r) (iS q) (iS bits) x13) = .ok .nx (sB n w b M m x5 x6 x7 x8 x9 (iS r) (iS q) (iS bits) x13) := by
  have go : C_law_board_4 (sB n w b L m x5 x6 x7 x8 x9 (iS r) (iS q) (iS bits) x13) = .ok .nx (sB n w b (addC L (kp (b.1 + r), kp (b.2 + q))) m x5 x6 x7 x8 x9 (iS r) (iS q) (iS bits) x13) := by
    unfold C_law_board_4
    simp only [sPut, ownD, List.getElem?_cons_succ, List.getElem?_cons_zero]
    walk_at "ev"
    rw [kept_is, H20.kept_ok]
    walk_at "ev"
    rw [put_cell hl]
    rfl
  have big : ∃ t : Bool, B_law_board_5 (sB n w b L m x5 x6 x7 x8 x9 (iS r) (iS q) (iS bits) x13) = if t = true then C_law_board_4 (sB n w b L m x5 x6 x7 x8 x9 (iS r) (iS q) (iS bits) x13) else .ok .nx (sB n w b L m x5 x6 x7 x8 x9 (iS r) (iS q) (iS bits) x13) := by
    unfold B_law_board_5
    walk_at "ev"
    rw [show shrD (.int bits) (.int q) = .ok (.int (bits / 2 ^ q.toNat)) from iop_ok (decide_eq_true hq)]
    walk_at "ev"
    rw [show ∀ i : Int, andD (.int i) (.int 1) = .ok (.int (Builtin.bitAnd i 1)) from fun i => rfl]
    walk_at "ev"
    exact ⟨_, rfl⟩
  obtain ⟨t, e⟩ := big
  cases t with
  | true => exact ⟨_, nd.add _ _ (by omega) (by omega), len_addC L _, e.trans go⟩
  | false => exact ⟨L, nd, by omega, e⟩
theorem way2 (w : Int) (b : Pt) (m : Int) (hm : 0 ≤ m ∧ m < 6) (k : Nat) (hk : k < 1000) (σ : SS) (h : BI w b m k σ) : SN (C_law_board_5 σ) (BI w b m (k + 36)) := by
  obtain ⟨n, L, x5, x6, x7, x8, x9, x10, x11, x12, x13, h0, h1, h2, rfl⟩ := h
  unfold C_law_board_5 I_law_board_6
  walk_at "ev"
  rw [rngI (by omega)]
  walk_at "ev"
  refine SNmono (loop_cnt (Inv := BI w b m) 6 (rangeD 0 (m + 1)) k _ ⟨n, L, x5, x6, x7, x8, x9, x10, x11, x12, x13, h0, h1, h2, rfl⟩ ?_) fun σ z => z.le (by rw [range_len]; omega)
  rintro d hd j j1 j2 σ ⟨n, L, x5, x6, x7, x8, x9, x10, x11, x12, x13, h0, h1, h2, rfl⟩
  rw [range_len] at j2
  obtain ⟨i, rfl, i1, i2⟩ := range_mem hd
  refine ⟨_, rfl, ?_⟩
  unfold B_law_board_6 I_law_board_5
  walk_at "ev"
  rw [rngI (by omega)]
  walk_at "ev"
  refine SNmono (loop_cnt (Inv := fun j σ => ∃ M y11, Gd b M ∧ M.length ≤ j ∧ σ = sB (n / 64) w b M m x5 x6 x7 x8 x9 (iS i) y11 (iS (n % 64)) x13) 1 (rangeD 0 6) L.length _ ⟨L, x11, h1, Nat.le_refl _, rfl⟩ ?_) ?_
  · rintro d hd j j1 j2 σ ⟨M, y11, h1, h2, rfl⟩
    rw [range_len] at j2
    obtain ⟨q, rfl, q1, q2⟩ := range_mem hd
    obtain ⟨M2, g1, g2, g3⟩ := bit_cell (n / 64) w b M m i q (n % 64) x5 x6 x7 x8 x9 x13 q1 (by omega) h1 (by have : (6 : Int).toNat = 6 := rfl; omega)
    exact ⟨_, rfl, _, g3, M2, _, g1, by omega, rfl⟩
  · rintro σ ⟨M, y11, h1, h2, rfl⟩
    rw [range_len] at h2
    exact ⟨n / 64, M, _, _, _, _, _, _, _, _, _, by omega, h1, by have : (6 : Int).toNat = 6 := rfl; omega, rfl⟩
theorem srt_same {L : List Pt} (nd : L.Nodup) : (srt L).length = L.length := ((List.perm_ext_iff_of_nodup (pw_nodup (pw_srt L)) nd).mpr fun _ => mem_srt).length_eq
theorem lenA_dct (L : List Pt) : lenAny [.dict (dctT L)] = .ok (.int (L.length : Nat)) := by
  have h0 : obK (dctT L) = false := by cases L <;> rfl
  show (if obK (dctT L) then Res.stuck else Res.ok (PyData.int ((dctT L).length : Nat))) = _
  rw [h0, dct_len]
  rfl
theorem min2I (i j : Int) : min2D [.int i, .int j] = .ok (.int (if j < i then j else i)) := rfl
theorem pop_turn (n w : Int) (b : Pt) (L : List Pt) (m : Int) (x5 x6 x7 x8 x9 x10 x11 x12 x13 : O) (h0 : 0 ≤ n) (nd : Gd b L) (hl : L.length < 900000) (hp : 0 < L.length) :
    ∃ q ∈ L, B_law_board_7 (sB n w b L m x5 x6 x7 x8 x9 x10 x11 x12 x13) = .ok .nx (sB (n / (L.length : Nat)) w b (L.filter fun x => decide (x ≠ q)) m x5 (iS (n % (L.length : Nat))) x7 x8 x9 x10 x11 x12 x13) := by
  obtain ⟨c, hc⟩ : ∃ c : Int, c = (L.length : Nat) := ⟨_, rfl⟩
  rw [← hc]
  have c0 : 0 < c := by omega
  have hat : (n % c).toNat < (srt L).length := by
    have := Int.emod_lt_of_pos n c0
    have := Int.emod_nonneg n (Int.ne_of_gt c0)
    rw [srt_same nd.nd]; omega
  obtain ⟨q, hq⟩ : ∃ q, (srt L)[(n % c).toNat]? = some q := ⟨_, List.getElem?_eq_getElem hat⟩
  have hq2 : q ∈ L := mem_srt.mp (List.mem_of_getElem? hq)
  refine ⟨q, hq2, ?_⟩
  unfold B_law_board_7
  walk_at "ev"
  rw [lenA_dct, ← hc]
  walk_at "ev"
  rw [E3.divmodI c0 (E3.log2_lt 40 (by omega) (by decide) c0)]
  walk_at "ev"
  rw [flat2, if_pos rfl]
  simp only [sPopD, ownD, List.getElem?_cons_succ, List.getElem?_cons_zero]
  walk_at "ev"
  rw [sort_dct nd.nd]
  walk_at "ev"
  obtain ⟨a, ha⟩ : ∃ a : Nat, (a : Int) = n % c := ⟨(n % c).toNat, by have := Int.emod_nonneg n (Int.ne_of_gt c0); omega⟩
  rw [show (n % c).toNat = a by omega] at hq
  rw [← ha, ix_lst hq]
  walk_at "ev"
  rw [show flatA [cellD q] = true from rfl, if_pos rfl, pop_dct hq2]
  rfl
theorem pops (w : Int) (b : Pt) (m : Int) (n g : Int) (L : List Pt) (x5 x6 x7 x8 x9 x10 x11 x12 : O) (hg : 0 ≤ g ∧ g < 3) (h0 : 0 ≤ n) (nd : Gd b L) (hl : L.length < 1000) :
    SN (sForR I_law_board_7 (gN 5) B_law_board_7 (sB n w b L m x5 x6 x7 x8 x9 x10 x11 x12 (iS g))) (BI w b m 1000) := by
  unfold sForR I_law_board_7
  walk_at "ev"
  rw [lenA_dct]
  walk_at "ev"
  obtain ⟨ln, hn⟩ : ∃ c : Int, c = (L.length : Nat) := ⟨_, rfl⟩
  rw [← hn, min2I]
  walk_at "ev"
  obtain ⟨c, hc⟩ : ∃ c : Int, c = (if ln < g then ln else g) := ⟨_, rfl⟩
  rw [← hc]
  have c1 : c ≤ ln ∧ c < 3 ∧ 0 ≤ c := by
    rw [hc]
    by_cases z : ln < g
    · rw [if_pos z]; omega
    · rw [if_neg z]; omega
  rw [rngI (by omega)]
  walk_at "ev"
  refine SNmono (loop_cnt (Inv := fun j σ => ∃ (n : Int) (M : List Pt) (x5 x6 x7 x8 x9 x10 x11 x12 x13 : O), 0 ≤ n ∧ Gd b M ∧ M.length + j = L.length ∧ σ = sB n w b M m x5 x6 x7 x8 x9 x10 x11 x12 x13) 1 (rangeD 0 c) 0 _ ⟨n, L, x5, x6, x7, x8, x9, x10, x11, x12, _, h0, nd, rfl, rfl⟩ ?_) ?_
  · rintro d hd j j1 j2 σ ⟨n, M, x5, x6, x7, x8, x9, x10, x11, x12, x13, h0, h1, h2, rfl⟩
    rw [range_len] at j2
    obtain ⟨q, hq, e⟩ := pop_turn n w b M m (some (.sh d)) x6 x7 x8 x9 x10 x11 x12 x13 h0 h1 (by omega) (by omega)
    refine ⟨_, rfl, _, e, n / (M.length : Nat), M.filter (fun x => decide (x ≠ q)), _, _, _, _, _, _, _, _, _, Int.ediv_nonneg h0 (by omega), h1.flt _, ?_, rfl⟩
    have := filter_ne_len h1.nd hq
    omega
  · rintro σ ⟨n, M, x5, x6, x7, x8, x9, x10, x11, x12, x13, h0, h1, h2, rfl⟩
    exact ⟨n, M, x5, x6, x7, x8, x9, x10, x11, x12, x13, h0, h1, by omega, rfl⟩
def BT : SF := (sSeq (sIf (tB (e2 eqD (eVar 1) (eC (.int 0)))) C_law_board_1 sNil)
  (sSeq (sIf (tB (e2 eqD (eVar 1) (eC (.int 1)))) C_law_board_3 sNil)
  (sSeq (sIf (tB (e2 gtD (eVar 1) (eC (.int 1)))) C_law_board_5 sNil)
  (sSeq (sAsg (gT 2 (gsCons (gN 0) (gsCons (gN 13) gsNil))) (eCall divmodD (aCons (eVar 0) (aCons (eC (.int 3)) aNil))))
  (sSeq (sForR I_law_board_7 (gN 5)
  B_law_board_7)
  T_law_board_1)))))
theorem if_then {w : Int} {b : Pt} {m : Int} {k k2 : Nat} {t : DS → Res Bool} {C : SF} {σ : SS} {c : Bool} (hk : k ≤ k2) (ht : t (view σ) = .ok c) (h : BI w b m k σ) (hC : SN (C σ) (BI w b m k2)) : SN (sIf t C sNil σ) (BI w b m k2) := by
  unfold sIf
  rw [ht]
  cases c with
  | true => exact hC
  | false => exact SN.ok (h.le hk)
theorem tail_ok (w : Int) (b : Pt) (m : Int) (hm : 0 ≤ m ∧ m < 6) (σ : SS) (h : BI w b m 0 σ) : ST (BT σ) (fun d => ∃ (ps : List Pt) (n' : Int), 0 ≤ n' ∧ ps.Pairwise ltP ∧ ps.length ≤ 1000 ∧ (∀ p ∈ ps, H20.inF p ∧ near b p) ∧ d = .tuple [tupC ps, .int n']) := by
  have v1 : ∀ {k : Nat} {σ : SS}, BI w b m k σ → eVar 1 (view σ) = .ok (.int w) := by
    rintro k σ ⟨n, L, x5, x6, x7, x8, x9, x10, x11, x12, x13, _, _, _, rfl⟩
    rfl
  unfold BT
  refine SN.thenT (if_then (c := (w == 0)) (by decide) (by unfold E3.tB; rw [E3.e2, v1 h]; rfl) h (way0 w b m hm 0 (by decide) σ h)) fun σ h => ?_
  refine SN.thenT (if_then (c := (w == 1)) (by decide) (by unfold E3.tB; rw [E3.e2, v1 h]; rfl) h (way1 w b m hm 6 (by decide) σ h)) fun σ h => ?_
  refine SN.thenT (if_then (c := decide (1 < w)) (by decide) (by unfold E3.tB; rw [E3.e2, v1 h]; rfl) h (way2 w b m hm 81 (by decide) σ h)) fun σ h => ?_
  obtain ⟨n, L, x5, x6, x7, x8, x9, x10, x11, x12, x13, h0, h1, h2, rfl⟩ := h
  refine SN.thenT (P := fun σ => σ = sB (n / 3) w b L m x5 x6 x7 x8 x9 x10 x11 x12 (iS (n % 3))) ⟨_, by walk_at "ev", rfl⟩ ?_
  rintro σ rfl
  refine SN.thenT (pops w b m (n / 3) (n % 3) L x5 x6 x7 x8 x9 x10 x11 x12 (by omega) (by omega) h1 (by omega)) ?_
  rintro σ ⟨n, L, x5, x6, x7, x8, x9, x10, x11, x12, x13, h0, h1, h2, rfl⟩
  unfold T_law_board_1
  walk_at "ev"
  rw [sort_dct h1.nd]
  walk_at "ev"
  exact ST.ok ⟨srt L, n, h0, pw_srt _, by rw [srt_same h1.nd]; exact h2, fun p hp => h1.bd p (mem_srt.mp hp), rfl⟩
end
end H70
namespace H70
open PySem PySem.Spec PyProof.Rows L2 E3 
local macro_rules | `(tactic| walk_at "ev") => `(tactic| try simp (disch := first | decide | decide +kernel | omega) only [fnD, xOr, xNot, startF, endF, sSeq, sAsg, sSet, sSetV, sAsgV, sIf, sRet, sNew, sNewV, sMut, sMutV, sFor, sForR, sFreeze, sNil, sExpr, optK, thenR_ok, thenR_exc, thenR_stuck,
  view, mask, E3.eVar_zero, E3.eVar_succ, eC, e1, e2, eCall, eTup, eLst, eSl, oNone, oSome, eAnd, eOr, eIf, E3.tAnd, E3.tOr, E3.tNot, E3.tB, asB, notD, aNil, aCons, Res.bind_ok, Res.bind_exc, Res.bind_stuck,
  gT, gsCons, gsNil, gN, tupD, lstD, Slot.dat, Slot.shd, List.length_cons, List.length_nil, List.map_cons, List.map_nil, List.replicate, List.append_nil, List.cons_append, List.nil_append, Option.map_some, Option.map_none, Option.bind_some, Option.bind_none,
  List.getElem?_cons_zero, List.getElem?_cons_succ, List.set_cons_zero, List.set_cons_succ, Nat.reduceAdd, Nat.reduceSub, Nat.reduceEqDiff, if_true, if_false, ite_true, ite_false, reduceIte, decide_true, decide_false, reduceCtorEq, Bool.not_true, Bool.not_false, Bool.false_eq_true, Bool.true_eq_false, Bool.or_true, Bool.true_or, Bool.false_or, Bool.or_false, Bool.and_true, Bool.and_false, Bool.true_and, Bool.false_and, addI, subI, ltI, leI, gtI, geI, eqI, neI, E3.negI, ix_cell0, ix_cell1, E3.le0, E3.le1, E3.le2, E3.le3, E3.le4, E3.le5, E3.le6, beq_self_eq_true, Int.reduceBEq, E3.divmodI, E3.modI, E3.fdivI, E3.powL, E3.mulLL, E3.isi_bool_none, E3.isi_bool_bool, E3.isi_bool_int, E3.isi_bool_str, E3.isi_bool_list, E3.isi_bool_tuple, E3.isi_int_none, E3.isi_int_bool, E3.isi_int_int, E3.isi_int_str, E3.isi_int_list, E3.isi_int_tuple, E3.isi_str_none, E3.isi_str_bool, E3.isi_str_int, E3.isi_str_str, E3.isi_str_list, E3.isi_str_tuple, E3.isi_list_none, E3.isi_list_bool, E3.isi_list_int, E3.isi_list_str, E3.isi_list_list, E3.isi_list_tuple, E3.isi_tuple_none, E3.isi_tuple_bool, E3.isi_tuple_int, E3.isi_tuple_str, E3.isi_tuple_list, E3.isi_tuple_tuple, E3.isN_none, E3.ntN_none, E3.isN_bool, E3.ntN_bool, E3.isN_int, E3.ntN_int, E3.isN_str, E3.ntN_str, E3.isN_list, E3.ntN_list, E3.isN_tuple, E3.ntN_tuple, E3.len_list, E3.len_tup, E3.seq_list, E3.seq_tup, E3.tup_list, E3.tup_tup, E3.lst_list, E3.lst_tup, xM, xV, xB, xTB, x2, xAnd, xNil, xCons, xTup, xLst, xCall, xSl, xPotd, ownXd, potKd, ePotE, dropKV, fnPd, startPd, endPd, slL, eSlL, xPot, ownX, potK, XR.bind_ok, XR.bind_exc, XR.bind_stuck, XR.of_ok, XR.of_exc, XR.of_stuck, thenX_ok, thenX_exc, thenX_stuck, qSet, qRet, qIf, qAsg, qForR, qFor, H70.fR_i, H70.fR_b, H70.fR_ii, H70.fR_c, fnP, startP, endP, fnL, startL, endL, xPotL, xLast, fnN, endN, E3.ix_lst0, Int.cast_ofNat_Int])
local macro_rules | `(tactic| walk_at "evs") => `(tactic| try simp (disch := first | decide | decide +kernel | omega) only [fnD, xOr, xNot, startF, endF, sSeq, sAsg, sSet, sSetV, sAsgV, sIf, sRet, sNew, sNewV, sMut, sMutV, sFor, sForR, sFreeze, sNil, sExpr, optK, thenR_ok, thenR_exc, thenR_stuck,
  view, mask, E3.eVar_zero, E3.eVar_succ, eC, e1, e2, eCall, eTup, eLst, eSl, oNone, oSome, eAnd, eOr, eIf, E3.tAnd, E3.tOr, E3.tNot, E3.tB, asB, notD, aNil, aCons, Res.bind_ok, Res.bind_exc, Res.bind_stuck,
  gT, gsCons, gsNil, gN, tupD, lstD, Slot.dat, Slot.shd, List.length_cons, List.length_nil, List.map_cons, List.map_nil, List.replicate, List.append_nil, List.cons_append, List.nil_append, Option.map_some, Option.map_none, Option.bind_some, Option.bind_none,
  List.getElem?_cons_zero, List.getElem?_cons_succ, List.set_cons_zero, List.set_cons_succ, Nat.reduceAdd, Nat.reduceSub, Nat.reduceEqDiff, if_true, if_false, ite_true, ite_false, reduceIte, decide_true, decide_false, reduceCtorEq, Bool.not_true, Bool.not_false, Bool.false_eq_true, Bool.true_eq_false, Bool.or_true, Bool.true_or, Bool.false_or, Bool.or_false, Bool.and_true, Bool.and_false, Bool.true_and, Bool.false_and, addI, subI, ltI, leI, gtI, geI, eqI, neI, E3.negI, ix_cell0, ix_cell1, E3.le0, E3.le1, E3.le2, E3.le3, E3.le4, E3.le5, E3.le6, beq_self_eq_true, Int.reduceBEq, E3.divmodI, E3.modI, E3.fdivI, E3.powL, E3.mulLL, E3.isi_bool_none, E3.isi_bool_bool, E3.isi_bool_int, E3.isi_bool_str, E3.isi_bool_list, E3.isi_bool_tuple, E3.isi_int_none, E3.isi_int_bool, E3.isi_int_int, E3.isi_int_str, E3.isi_int_list, E3.isi_int_tuple, E3.isi_str_none, E3.isi_str_bool, E3.isi_str_int, E3.isi_str_str, E3.isi_str_list, E3.isi_str_tuple, E3.isi_list_none, E3.isi_list_bool, E3.isi_list_int, E3.isi_list_str, E3.isi_list_list, E3.isi_list_tuple, E3.isi_tuple_none, E3.isi_tuple_bool, E3.isi_tuple_int, E3.isi_tuple_str, E3.isi_tuple_list, E3.isi_tuple_tuple, E3.isN_none, E3.ntN_none, E3.isN_bool, E3.ntN_bool, E3.isN_int, E3.ntN_int, E3.isN_str, E3.ntN_str, E3.isN_list, E3.ntN_list, E3.isN_tuple, E3.ntN_tuple, E3.len_list, E3.len_tup, E3.seq_list, E3.seq_tup, E3.tup_list, E3.tup_tup, E3.lst_list, E3.lst_tup, xM, xV, xB, xTB, x2, xAnd, xNil, xCons, xTup, xLst, xCall, xSl, xPotd, ownXd, potKd, ePotE, dropKV, fnPd, startPd, endPd, slL, eSlL, xPot, ownX, potK, XR.bind_ok, XR.bind_exc, XR.bind_stuck, XR.of_ok, XR.of_exc, XR.of_stuck, thenX_ok, thenX_exc, thenX_stuck, qSet, qRet, qIf, qAsg, qForR, qFor, H70.fR_i, H70.fR_b, H70.fR_ii, H70.fR_c, fnP, startP, endP, fnL, startL, endL, xPotL, xLast, fnN, endN, E3.ix_lst0, Int.cast_ofNat_Int, *])
end H70
namespace H70
open PySem PySem.Spec PyProof.Rows L2 E3 
local macro_rules | `(tactic| walk_at "ev") => `(tactic| try simp (disch := first | decide | decide +kernel | omega) only [fnD, xOr, xNot, startF, endF, sSeq, sAsg, sSet, sSetV, sAsgV, sIf, sRet, sNew, sNewV, sMut, sMutV, sFor, sForR, sFreeze, sNil, sExpr, optK, thenR_ok, thenR_exc, thenR_stuck,
  view, mask, E3.eVar_zero, E3.eVar_succ, eC, e1, e2, eCall, eTup, eLst, eSl, oNone, oSome, eAnd, eOr, eIf, E3.tAnd, E3.tOr, E3.tNot, E3.tB, asB, notD, aNil, aCons, Res.bind_ok, Res.bind_exc, Res.bind_stuck,
  gT, gsCons, gsNil, gN, tupD, lstD, Slot.dat, Slot.shd, List.length_cons, List.length_nil, List.map_cons, List.map_nil, List.replicate, List.append_nil, List.cons_append, List.nil_append, Option.map_some, Option.map_none, Option.bind_some, Option.bind_none,
  List.getElem?_cons_zero, List.getElem?_cons_succ, List.set_cons_zero, List.set_cons_succ, Nat.reduceAdd, Nat.reduceSub, Nat.reduceEqDiff, if_true, if_false, ite_true, ite_false, reduceIte, decide_true, decide_false, reduceCtorEq, Bool.not_true, Bool.not_false, Bool.false_eq_true, Bool.true_eq_false, Bool.or_true, Bool.true_or, Bool.false_or, Bool.or_false, Bool.and_true, Bool.and_false, Bool.true_and, Bool.false_and, addI, subI, ltI, leI, gtI, geI, eqI, neI, E3.negI, ix_cell0, ix_cell1, E3.le0, E3.le1, E3.le2, E3.le3, E3.le4, E3.le5, E3.le6, beq_self_eq_true, Int.reduceBEq, E3.divmodI, E3.modI, E3.fdivI, E3.powL, E3.mulLL, E3.isi_bool_none, E3.isi_bool_bool, E3.isi_bool_int, E3.isi_bool_str, E3.isi_bool_list, E3.isi_bool_tuple, E3.isi_int_none, E3.isi_int_bool, E3.isi_int_int, E3.isi_int_str, E3.isi_int_list, E3.isi_int_tuple, E3.isi_str_none, E3.isi_str_bool, E3.isi_str_int, E3.isi_str_str, E3.isi_str_list, E3.isi_str_tuple, E3.isi_list_none, E3.isi_list_bool, E3.isi_list_int, E3.isi_list_str, E3.isi_list_list, E3.isi_list_tuple, E3.isi_tuple_none, E3.isi_tuple_bool, E3.isi_tuple_int, E3.isi_tuple_str, E3.isi_tuple_list, E3.isi_tuple_tuple, E3.isN_none, E3.ntN_none, E3.isN_bool, E3.ntN_bool, E3.isN_int, E3.ntN_int, E3.isN_str, E3.ntN_str, E3.isN_list, E3.ntN_list, E3.isN_tuple, E3.ntN_tuple, E3.len_list, E3.len_tup, E3.seq_list, E3.seq_tup, E3.tup_list, E3.tup_tup, E3.lst_list, E3.lst_tup, xM, xV, xB, xTB, x2, xAnd, xNil, xCons, xTup, xLst, xCall, xSl, xPotd, ownXd, potKd, ePotE, dropKV, fnPd, startPd, endPd, slL, eSlL, xPot, ownX, potK, XR.bind_ok, XR.bind_exc, XR.bind_stuck, XR.of_ok, XR.of_exc, XR.of_stuck, thenX_ok, thenX_exc, thenX_stuck, qSet, qRet, qIf, qAsg, qForR, qFor, H70.fR_i, H70.fR_b, H70.fR_ii, H70.fR_c, fnP, startP, endP, fnL, startL, endL, xPotL, xLast, fnN, endN, E3.ix_lst0, Int.cast_ofNat_Int])
local macro_rules | `(tactic| walk_at "evs") => `(tactic| try simp (disch := first | decide | decide +kernel | omega) only [fnD, xOr, xNot, startF, endF, sSeq, sAsg, sSet, sSetV, sAsgV, sIf, sRet, sNew, sNewV, sMut, sMutV, sFor, sForR, sFreeze, sNil, sExpr, optK, thenR_ok, thenR_exc, thenR_stuck,
  view, mask, E3.eVar_zero, E3.eVar_succ, eC, e1, e2, eCall, eTup, eLst, eSl, oNone, oSome, eAnd, eOr, eIf, E3.tAnd, E3.tOr, E3.tNot, E3.tB, asB, notD, aNil, aCons, Res.bind_ok, Res.bind_exc, Res.bind_stuck,
  gT, gsCons, gsNil, gN, tupD, lstD, Slot.dat, Slot.shd, List.length_cons, List.length_nil, List.map_cons, List.map_nil, List.replicate, List.append_nil, List.cons_append, List.nil_append, Option.map_some, Option.map_none, Option.bind_some, Option.bind_none,
  List.getElem?_cons_zero, List.getElem?_cons_succ, List.set_cons_zero, List.set_cons_succ, Nat.reduceAdd, Nat.reduceSub, Nat.reduceEqDiff, if_true, if_false, ite_true, ite_false, reduceIte, decide_true, decide_false, reduceCtorEq, Bool.not_true, Bool.not_false, Bool.false_eq_true, Bool.true_eq_false, Bool.or_true, Bool.true_or, Bool.false_or, Bool.or_false, Bool.and_true, Bool.and_false, Bool.true_and, Bool.false_and, addI, subI, ltI, leI, gtI, geI, eqI, neI, E3.negI, ix_cell0, ix_cell1, E3.le0, E3.le1, E3.le2, E3.le3, E3.le4, E3.le5, E3.le6, beq_self_eq_true, Int.reduceBEq, E3.divmodI, E3.modI, E3.fdivI, E3.powL, E3.mulLL, E3.isi_bool_none, E3.isi_bool_bool, E3.isi_bool_int, E3.isi_bool_str, E3.isi_bool_list, E3.isi_bool_tuple, E3.isi_int_none, E3.isi_int_bool, E3.isi_int_int, E3.isi_int_str, E3.isi_int_list, E3.isi_int_tuple, E3.isi_str_none, E3.isi_str_bool, E3.isi_str_int, E3.isi_str_str, E3.isi_str_list, E3.isi_str_tuple, E3.isi_list_none, E3.isi_list_bool, E3.isi_list_int, E3.isi_list_str, E3.isi_list_list, E3.isi_list_tuple, E3.isi_tuple_none, E3.isi_tuple_bool, E3.isi_tuple_int, E3.isi_tuple_str, E3.isi_tuple_list, E3.isi_tuple_tuple, E3.isN_none, E3.ntN_none, E3.isN_bool, E3.ntN_bool, E3.isN_int, E3.ntN_int, E3.isN_str, E3.ntN_str, E3.isN_list, E3.ntN_list, E3.isN_tuple, E3.ntN_tuple, E3.len_list, E3.len_tup, E3.seq_list, E3.seq_tup, E3.tup_list, E3.tup_tup, E3.lst_list, E3.lst_tup, xM, xV, xB, xTB, x2, xAnd, xNil, xCons, xTup, xLst, xCall, xSl, xPotd, ownXd, potKd, ePotE, dropKV, fnPd, startPd, endPd, slL, eSlL, xPot, ownX, potK, XR.bind_ok, XR.bind_exc, XR.bind_stuck, XR.of_ok, XR.of_exc, XR.of_stuck, thenX_ok, thenX_exc, thenX_stuck, qSet, qRet, qIf, qAsg, qForR, qFor, H70.fR_i, H70.fR_b, H70.fR_ii, H70.fR_c, fnP, startP, endP, fnL, startL, endL, xPotL, xLast, fnN, endN, E3.ix_lst0, Int.cast_ofNat_Int, *])
end H70
namespace E3
open PySem PySem.Spec PyProof.Rows L2
section
variable {X : Cx} {E : WX} {o e1 e2' : Expr} {f g h : DS → Res D} {pos apos : Pos}
end
end E3
namespace E3
open PySem PySem.Spec PyProof.Rows L2
section
variable {X : Cx} {E : WX} {tg iter : Expr} {f : DS → Res D} {pos : Pos} {pt : GF} {ix : List Nat} {gb : SF} {body : List Stmt}
end
end E3
namespace E3
open PySem PySem.Spec PyProof.Rows L2
section
variable {X : Cx} {E : WX} {e st : Expr} {te ts : TE} {f : DS → Res D} {pos p2 : Pos}
end
end E3
namespace E3
open PySem PySem.Spec PyProof.Rows L2
section
variable {X : Cx} {E : WX} {ps : List Nat} {rk : RK} {x : Str} {np pos pos' : Pos} {R0 H0 R H : Hp} {τ0 τ : L2.St} {σ : SS} {Dn : Ends} {i value : Expr} {fk fv : DS → Res D}
end
end E3
namespace E3
open PySem PySem.Spec PyProof.Rows L2
section
variable {X : Cx} {E : WX} {o e : Expr} {f : DS → Res D} {ga : DS → Res (List D)} {pos apos : Pos}
end
end E3
namespace E3
open PySem PySem.Spec PyProof.Rows L2
section
variable {X : Cx} {E : WX} {o e : Expr} {es : List Expr} {pos apos np pos' : Pos}
end
end E3
namespace H80
open PySem PySem.Spec PyProof.Rows L2 E3 
local macro_rules | `(tactic| walk_at "ev") => `(tactic| try simp (disch := first | decide | decide +kernel | omega) only [fnD, xOr, xNot, startF, endF, sSeq, sAsg, sSet, sSetV, sAsgV, sIf, sRet, sNew, sNewV, sMut, sMutV, sFor, sForR, sFreeze, sNil, sExpr, optK, thenR_ok, thenR_exc, thenR_stuck,
  view, mask, E3.eVar_zero, E3.eVar_succ, eC, e1, e2, eCall, eTup, eLst, eSl, oNone, oSome, eAnd, eOr, eIf, E3.tAnd, E3.tOr, E3.tNot, E3.tB, asB, notD, aNil, aCons, Res.bind_ok, Res.bind_exc, Res.bind_stuck,
  gT, gsCons, gsNil, gN, tupD, lstD, Slot.dat, Slot.shd, List.length_cons, List.length_nil, List.map_cons, List.map_nil, List.replicate, List.append_nil, List.cons_append, List.nil_append, Option.map_some, Option.map_none, Option.bind_some, Option.bind_none,
  List.getElem?_cons_zero, List.getElem?_cons_succ, List.set_cons_zero, List.set_cons_succ, Nat.reduceAdd, Nat.reduceSub, Nat.reduceEqDiff, if_true, if_false, ite_true, ite_false, reduceIte, decide_true, decide_false, reduceCtorEq, Bool.not_true, Bool.not_false, Bool.false_eq_true, Bool.true_eq_false, Bool.or_true, Bool.true_or, Bool.false_or, Bool.or_false, Bool.and_true, Bool.and_false, Bool.true_and, Bool.false_and, addI, subI, ltI, leI, gtI, geI, eqI, neI, E3.negI, ix_cell0, ix_cell1, E3.le0, E3.le1, E3.le2, E3.le3, E3.le4, E3.le5, E3.le6, beq_self_eq_true, Int.reduceBEq, E3.divmodI, E3.modI, E3.fdivI, E3.powL, E3.mulLL, E3.isi_bool_none, E3.isi_bool_bool, E3.isi_bool_int, E3.isi_bool_str, E3.isi_bool_list, E3.isi_bool_tuple, E3.isi_int_none, E3.isi_int_bool, E3.isi_int_int, E3.isi_int_str, E3.isi_int_list, E3.isi_int_tuple, E3.isi_str_none, E3.isi_str_bool, E3.isi_str_int, E3.isi_str_str, E3.isi_str_list, E3.isi_str_tuple, E3.isi_list_none, E3.isi_list_bool, E3.isi_list_int, E3.isi_list_str, E3.isi_list_list, E3.isi_list_tuple, E3.isi_tuple_none, E3.isi_tuple_bool, E3.isi_tuple_int, E3.isi_tuple_str, E3.isi_tuple_list, E3.isi_tuple_tuple, E3.isN_none, E3.ntN_none, E3.isN_bool, E3.ntN_bool, E3.isN_int, E3.ntN_int, E3.isN_str, E3.ntN_str, E3.isN_list, E3.ntN_list, E3.isN_tuple, E3.ntN_tuple, E3.len_list, E3.len_tup, E3.seq_list, E3.seq_tup, E3.tup_list, E3.tup_tup, E3.lst_list, E3.lst_tup, xM, xV, xB, xTB, x2, xAnd, xNil, xCons, xTup, xLst, xCall, xSl, xPotd, ownXd, potKd, ePotE, dropKV, fnPd, startPd, endPd, slL, eSlL, xPot, ownX, potK, XR.bind_ok, XR.bind_exc, XR.bind_stuck, XR.of_ok, XR.of_exc, XR.of_stuck, thenX_ok, thenX_exc, thenX_stuck, qSet, qRet, qIf, qAsg, qForR, qFor, H70.fR_i, H70.fR_b, H70.fR_ii, H70.fR_c, fnP, startP, endP, fnL, startL, endL, xPotL, xLast, fnN, endN, E3.ix_lst0, Int.cast_ofNat_Int])
local macro_rules | `(tactic| walk_at "evs") => `(tactic| try simp (disch := first | decide | decide +kernel | omega) only [fnD, xOr, xNot, startF, endF, sSeq, sAsg, sSet, sSetV, sAsgV, sIf, sRet, sNew, sNewV, sMut, sMutV, sFor, sForR, sFreeze, sNil, sExpr, optK, thenR_ok, thenR_exc, thenR_stuck,
  view, mask, E3.eVar_zero, E3.eVar_succ, eC, e1, e2, eCall, eTup, eLst, eSl, oNone, oSome, eAnd, eOr, eIf, E3.tAnd, E3.tOr, E3.tNot, E3.tB, asB, notD, aNil, aCons, Res.bind_ok, Res.bind_exc, Res.bind_stuck,
  gT, gsCons, gsNil, gN, tupD, lstD, Slot.dat, Slot.shd, List.length_cons, List.length_nil, List.map_cons, List.map_nil, List.replicate, List.append_nil, List.cons_append, List.nil_append, Option.map_some, Option.map_none, Option.bind_some, Option.bind_none,
  List.getElem?_cons_zero, List.getElem?_cons_succ, List.set_cons_zero, List.set_cons_succ, Nat.reduceAdd, Nat.reduceSub, Nat.reduceEqDiff, if_true, if_false, ite_true, ite_false, reduceIte, decide_true, decide_false, reduceCtorEq, Bool.not_true, Bool.not_false, Bool.false_eq_true, Bool.true_eq_false, Bool.or_true, Bool.true_or, Bool.false_or, Bool.or_false, Bool.and_true, Bool.and_false, Bool.true_and, Bool.false_and, addI, subI, ltI, leI, gtI, geI, eqI, neI, E3.negI, ix_cell0, ix_cell1, E3.le0, E3.le1, E3.le2, E3.le3, E3.le4, E3.le5, E3.le6, beq_self_eq_true, Int.reduceBEq, E3.divmodI, E3.modI, E3.fdivI, E3.powL, E3.mulLL, E3.isi_bool_none, E3.isi_bool_bool, E3.isi_bool_int, E3.isi_bool_str, E3.isi_bool_list, E3.isi_bool_tuple, E3.isi_int_none, E3.isi_int_bool, E3.isi_int_int, E3.isi_int_str, E3.isi_int_list, E3.isi_int_tuple, E3.isi_str_none, E3.isi_str_bool, E3.isi_str_int, E3.isi_str_str, E3.isi_str_list, E3.isi_str_tuple, E3.isi_list_none, E3.isi_list_bool, E3.isi_list_int, E3.isi_list_str, E3.isi_list_list, E3.isi_list_tuple, E3.isi_tuple_none, E3.isi_tuple_bool, E3.isi_tuple_int, E3.isi_tuple_str, E3.isi_tuple_list, E3.isi_tuple_tuple, E3.isN_none, E3.ntN_none, E3.isN_bool, E3.ntN_bool, E3.isN_int, E3.ntN_int, E3.isN_str, E3.ntN_str, E3.isN_list, E3.ntN_list, E3.isN_tuple, E3.ntN_tuple, E3.len_list, E3.len_tup, E3.seq_list, E3.seq_tup, E3.tup_list, E3.tup_tup, E3.lst_list, E3.lst_tup, xM, xV, xB, xTB, x2, xAnd, xNil, xCons, xTup, xLst, xCall, xSl, xPotd, ownXd, potKd, ePotE, dropKV, fnPd, startPd, endPd, slL, eSlL, xPot, ownX, potK, XR.bind_ok, XR.bind_exc, XR.bind_stuck, XR.of_ok, XR.of_exc, XR.of_stuck, thenX_ok, thenX_exc, thenX_stuck, qSet, qRet, qIf, qAsg, qForR, qFor, H70.fR_i, H70.fR_b, H70.fR_ii, H70.fR_c, fnP, startP, endP, fnL, startL, endL, xPotL, xLast, fnN, endN, E3.ix_lst0, Int.cast_ofNat_Int, *])
open H70
noncomputable section
abbrev O := Option Slot
def mkD (ks M : List Pt) : List (D × D) := ks.map fun p => (cellD p, .bool (decide (p ∈ M)))
abbrev s8 (a0 : O) (b : Bool) (ks M : List Pt) (x3 : O) (x4 : O) (g : List Pt) (k : Int) (x7 : O) : SS := [a0, some (.sh (.bool b)), some (.ow (.dict (mkD ks M))), x3, x4, some (.ow (.list (g.map cellD))), some (.sh (.int k)), x7]
end
end H80
namespace H80
open PySem PySem.Spec PyProof.Rows L2 E3 
local macro_rules | `(tactic| walk_at "ev") => `(tactic| try simp (disch := first | decide | decide +kernel | omega) only [fnD, xOr, xNot, startF, endF, sSeq, sAsg, sSet, sSetV, sAsgV, sIf, sRet, sNew, sNewV, sMut, sMutV, sFor, sForR, sFreeze, sNil, sExpr, optK, thenR_ok, thenR_exc, thenR_stuck,
  view, mask, E3.eVar_zero, E3.eVar_succ, eC, e1, e2, eCall, eTup, eLst, eSl, oNone, oSome, eAnd, eOr, eIf, E3.tAnd, E3.tOr, E3.tNot, E3.tB, asB, notD, aNil, aCons, Res.bind_ok, Res.bind_exc, Res.bind_stuck,
  gT, gsCons, gsNil, gN, tupD, lstD, Slot.dat, Slot.shd, List.length_cons, List.length_nil, List.map_cons, List.map_nil, List.replicate, List.append_nil, List.cons_append, List.nil_append, Option.map_some, Option.map_none, Option.bind_some, Option.bind_none,
  List.getElem?_cons_zero, List.getElem?_cons_succ, List.set_cons_zero, List.set_cons_succ, Nat.reduceAdd, Nat.reduceSub, Nat.reduceEqDiff, if_true, if_false, ite_true, ite_false, reduceIte, decide_true, decide_false, reduceCtorEq, Bool.not_true, Bool.not_false, Bool.false_eq_true, Bool.true_eq_false, Bool.or_true, Bool.true_or, Bool.false_or, Bool.or_false, Bool.and_true, Bool.and_false, Bool.true_and, Bool.false_and, addI, subI, ltI, leI, gtI, geI, eqI, neI, E3.negI, ix_cell0, ix_cell1, E3.le0, E3.le1, E3.le2, E3.le3, E3.le4, E3.le5, E3.le6, beq_self_eq_true, Int.reduceBEq, E3.divmodI, E3.modI, E3.fdivI, E3.powL, E3.mulLL, E3.isi_bool_none, E3.isi_bool_bool, E3.isi_bool_int, E3.isi_bool_str, E3.isi_bool_list, E3.isi_bool_tuple, E3.isi_int_none, E3.isi_int_bool, E3.isi_int_int, E3.isi_int_str, E3.isi_int_list, E3.isi_int_tuple, E3.isi_str_none, E3.isi_str_bool, E3.isi_str_int, E3.isi_str_str, E3.isi_str_list, E3.isi_str_tuple, E3.isi_list_none, E3.isi_list_bool, E3.isi_list_int, E3.isi_list_str, E3.isi_list_list, E3.isi_list_tuple, E3.isi_tuple_none, E3.isi_tuple_bool, E3.isi_tuple_int, E3.isi_tuple_str, E3.isi_tuple_list, E3.isi_tuple_tuple, E3.isN_none, E3.ntN_none, E3.isN_bool, E3.ntN_bool, E3.isN_int, E3.ntN_int, E3.isN_str, E3.ntN_str, E3.isN_list, E3.ntN_list, E3.isN_tuple, E3.ntN_tuple, E3.len_list, E3.len_tup, E3.seq_list, E3.seq_tup, E3.tup_list, E3.tup_tup, E3.lst_list, E3.lst_tup, xM, xV, xB, xTB, x2, xAnd, xNil, xCons, xTup, xLst, xCall, xSl, xPotd, ownXd, potKd, ePotE, dropKV, fnPd, startPd, endPd, slL, eSlL, xPot, ownX, potK, XR.bind_ok, XR.bind_exc, XR.bind_stuck, XR.of_ok, XR.of_exc, XR.of_stuck, thenX_ok, thenX_exc, thenX_stuck, qSet, qRet, qIf, qAsg, qForR, qFor, H70.fR_i, H70.fR_b, H70.fR_ii, H70.fR_c, fnP, startP, endP, fnL, startL, endL, xPotL, xLast, fnN, endN, E3.ix_lst0, Int.cast_ofNat_Int])
local macro_rules | `(tactic| walk_at "evs") => `(tactic| try simp (disch := first | decide | decide +kernel | omega) only [fnD, xOr, xNot, startF, endF, sSeq, sAsg, sSet, sSetV, sAsgV, sIf, sRet, sNew, sNewV, sMut, sMutV, sFor, sForR, sFreeze, sNil, sExpr, optK, thenR_ok, thenR_exc, thenR_stuck,
  view, mask, E3.eVar_zero, E3.eVar_succ, eC, e1, e2, eCall, eTup, eLst, eSl, oNone, oSome, eAnd, eOr, eIf, E3.tAnd, E3.tOr, E3.tNot, E3.tB, asB, notD, aNil, aCons, Res.bind_ok, Res.bind_exc, Res.bind_stuck,
  gT, gsCons, gsNil, gN, tupD, lstD, Slot.dat, Slot.shd, List.length_cons, List.length_nil, List.map_cons, List.map_nil, List.replicate, List.append_nil, List.cons_append, List.nil_append, Option.map_some, Option.map_none, Option.bind_some, Option.bind_none,
  List.getElem?_cons_zero, List.getElem?_cons_succ, List.set_cons_zero, List.set_cons_succ, Nat.reduceAdd, Nat.reduceSub, Nat.reduceEqDiff, if_true, if_false, ite_true, ite_false, reduceIte, decide_true, decide_false, reduceCtorEq, Bool.not_true, Bool.not_false, Bool.false_eq_true, Bool.true_eq_false, Bool.or_true, Bool.true_or, Bool.false_or, Bool.or_false, Bool.and_true, Bool.and_false, Bool.true_and, Bool.false_and, addI, subI, ltI, leI, gtI, geI, eqI, neI, E3.negI, ix_cell0, ix_cell1, E3.le0, E3.le1, E3.le2, E3.le3, E3.le4, E3.le5, E3.le6, beq_self_eq_true, Int.reduceBEq, E3.divmodI, E3.modI, E3.fdivI, E3.powL, E3.mulLL, E3.isi_bool_none, E3.isi_bool_bool, E3.isi_bool_int, E3.isi_bool_str, E3.isi_bool_list, E3.isi_bool_tuple, E3.isi_int_none, E3.isi_int_bool, E3.isi_int_int, E3.isi_int_str, E3.isi_int_list, E3.isi_int_tuple, E3.isi_str_none, E3.isi_str_bool, E3.isi_str_int, E3.isi_str_str, E3.isi_str_list, E3.isi_str_tuple, E3.isi_list_none, E3.isi_list_bool, E3.isi_list_int, E3.isi_list_str, E3.isi_list_list, E3.isi_list_tuple, E3.isi_tuple_none, E3.isi_tuple_bool, E3.isi_tuple_int, E3.isi_tuple_str, E3.isi_tuple_list, E3.isi_tuple_tuple, E3.isN_none, E3.ntN_none, E3.isN_bool, E3.ntN_bool, E3.isN_int, E3.ntN_int, E3.isN_str, E3.ntN_str, E3.isN_list, E3.ntN_list, E3.isN_tuple, E3.ntN_tuple, E3.len_list, E3.len_tup, E3.seq_list, E3.seq_tup, E3.tup_list, E3.tup_tup, E3.lst_list, E3.lst_tup, xM, xV, xB, xTB, x2, xAnd, xNil, xCons, xTup, xLst, xCall, xSl, xPotd, ownXd, potKd, ePotE, dropKV, fnPd, startPd, endPd, slL, eSlL, xPot, ownX, potK, XR.bind_ok, XR.bind_exc, XR.bind_stuck, XR.of_ok, XR.of_exc, XR.of_stuck, thenX_ok, thenX_exc, thenX_stuck, qSet, qRet, qIf, qAsg, qForR, qFor, H70.fR_i, H70.fR_b, H70.fR_ii, H70.fR_c, fnP, startP, endP, fnL, startL, endL, xPotL, xLast, fnN, endN, E3.ix_lst0, Int.cast_ofNat_Int, *])
noncomputable section
open H70
end
end H80
namespace E3
open PySem PySem.Spec PyProof.Rows L2
section
variable {M : Model} {A : Around} {E : Value → Shared → Prop} {s : Shared} {env : Env}
end
section
variable {X : Cx} {E : WX}
end
end E3
namespace E3
open PySem PySem.Spec PyProof.Rows L2
section
variable {X : Cx} {E : WX}
end
end E3
namespace E3
open PySem PySem.Spec PyProof.Rows L2
section
variable {X : Cx} {E : WX} {pos : Pos} {tg elt iter : Expr} {ifs : List Expr} {scope : Scope} {own : List (Str × Nat)} {pt : GF} {ix : List Nat} {it : DS → Res (List D)} {c : DS → Res Bool} {f : DS → Res D}
end
end E3
namespace H80
open PySem PySem.Spec PyProof.Rows L2 E3 
local macro_rules | `(tactic| walk_at "ev") => `(tactic| try simp (disch := first | decide | decide +kernel | omega) only [fnD, xOr, xNot, startF, endF, sSeq, sAsg, sSet, sSetV, sAsgV, sIf, sRet, sNew, sNewV, sMut, sMutV, sFor, sForR, sFreeze, sNil, sExpr, optK, thenR_ok, thenR_exc, thenR_stuck,
  view, mask, E3.eVar_zero, E3.eVar_succ, eC, e1, e2, eCall, eTup, eLst, eSl, oNone, oSome, eAnd, eOr, eIf, E3.tAnd, E3.tOr, E3.tNot, E3.tB, asB, notD, aNil, aCons, Res.bind_ok, Res.bind_exc, Res.bind_stuck,
  gT, gsCons, gsNil, gN, tupD, lstD, Slot.dat, Slot.shd, List.length_cons, List.length_nil, List.map_cons, List.map_nil, List.replicate, List.append_nil, List.cons_append, List.nil_append, Option.map_some, Option.map_none, Option.bind_some, Option.bind_none,
  List.getElem?_cons_zero, List.getElem?_cons_succ, List.set_cons_zero, List.set_cons_succ, Nat.reduceAdd, Nat.reduceSub, Nat.reduceEqDiff, if_true, if_false, ite_true, ite_false, reduceIte, decide_true, decide_false, reduceCtorEq, Bool.not_true, Bool.not_false, Bool.false_eq_true, Bool.true_eq_false, Bool.or_true, Bool.true_or, Bool.false_or, Bool.or_false, Bool.and_true, Bool.and_false, Bool.true_and, Bool.false_and, addI, subI, ltI, leI, gtI, geI, eqI, neI, E3.negI, ix_cell0, ix_cell1, E3.le0, E3.le1, E3.le2, E3.le3, E3.le4, E3.le5, E3.le6, beq_self_eq_true, Int.reduceBEq, E3.divmodI, E3.modI, E3.fdivI, E3.powL, E3.mulLL, E3.isi_bool_none, E3.isi_bool_bool, E3.isi_bool_int, E3.isi_bool_str, E3.isi_bool_list, E3.isi_bool_tuple, E3.isi_int_none, E3.isi_int_bool, E3.isi_int_int, E3.isi_int_str, E3.isi_int_list, E3.isi_int_tuple, E3.isi_str_none, E3.isi_str_bool, E3.isi_str_int, E3.isi_str_str, E3.isi_str_list, E3.isi_str_tuple, E3.isi_list_none, E3.isi_list_bool, E3.isi_list_int, E3.isi_list_str, E3.isi_list_list, E3.isi_list_tuple, E3.isi_tuple_none, E3.isi_tuple_bool, E3.isi_tuple_int, E3.isi_tuple_str, E3.isi_tuple_list, E3.isi_tuple_tuple, E3.isN_none, E3.ntN_none, E3.isN_bool, E3.ntN_bool, E3.isN_int, E3.ntN_int, E3.isN_str, E3.ntN_str, E3.isN_list, E3.ntN_list, E3.isN_tuple, E3.ntN_tuple, E3.len_list, E3.len_tup, E3.seq_list, E3.seq_tup, E3.tup_list, E3.tup_tup, E3.lst_list, E3.lst_tup, xM, xV, xB, xTB, x2, xAnd, xNil, xCons, xTup, xLst, xCall, xSl, xPotd, ownXd, potKd, ePotE, dropKV, fnPd, startPd, endPd, slL, eSlL, xPot, ownX, potK, XR.bind_ok, XR.bind_exc, XR.bind_stuck, XR.of_ok, XR.of_exc, XR.of_stuck, thenX_ok, thenX_exc, thenX_stuck, qSet, qRet, qIf, qAsg, qForR, qFor, H70.fR_i, H70.fR_b, H70.fR_ii, H70.fR_c, fnP, startP, endP, fnL, startL, endL, xPotL, xLast, fnN, endN, E3.ix_lst0, Int.cast_ofNat_Int])
local macro_rules | `(tactic| walk_at "evs") => `(tactic| try simp (disch := first | decide | decide +kernel | omega) only [fnD, xOr, xNot, startF, endF, sSeq, sAsg, sSet, sSetV, sAsgV, sIf, sRet, sNew, sNewV, sMut, sMutV, sFor, sForR, sFreeze, sNil, sExpr, optK, thenR_ok, thenR_exc, thenR_stuck,
  view, mask, E3.eVar_zero, E3.eVar_succ, eC, e1, e2, eCall, eTup, eLst, eSl, oNone, oSome, eAnd, eOr, eIf, E3.tAnd, E3.tOr, E3.tNot, E3.tB, asB, notD, aNil, aCons, Res.bind_ok, Res.bind_exc, Res.bind_stuck,
  gT, gsCons, gsNil, gN, tupD, lstD, Slot.dat, Slot.shd, List.length_cons, List.length_nil, List.map_cons, List.map_nil, List.replicate, List.append_nil, List.cons_append, List.nil_append, Option.map_some, Option.map_none, Option.bind_some, Option.bind_none,
  List.getElem?_cons_zero, List.getElem?_cons_succ, List.set_cons_zero, List.set_cons_succ, Nat.reduceAdd, Nat.reduceSub, Nat.reduceEqDiff, if_true, if_false, ite_true, ite_false, reduceIte, decide_true, decide_false, reduceCtorEq, Bool.not_true, Bool.not_false, Bool.false_eq_true, Bool.true_eq_false, Bool.or_true, Bool.true_or, Bool.false_or, Bool.or_false, Bool.and_true, Bool.and_false, Bool.true_and, Bool.false_and, addI, subI, ltI, leI, gtI, geI, eqI, neI, E3.negI, ix_cell0, ix_cell1, E3.le0, E3.le1, E3.le2, E3.le3, E3.le4, E3.le5, E3.le6, beq_self_eq_true, Int.reduceBEq, E3.divmodI, E3.modI, E3.fdivI, E3.powL, E3.mulLL, E3.isi_bool_none, E3.isi_bool_bool, E3.isi_bool_int, E3.isi_bool_str, E3.isi_bool_list, E3.isi_bool_tuple, E3.isi_int_none, E3.isi_int_bool, E3.isi_int_int, E3.isi_int_str, E3.isi_int_list, E3.isi_int_tuple, E3.isi_str_none, E3.isi_str_bool, E3.isi_str_int, E3.isi_str_str, E3.isi_str_list, E3.isi_str_tuple, E3.isi_list_none, E3.isi_list_bool, E3.isi_list_int, E3.isi_list_str, E3.isi_list_list, E3.isi_list_tuple, E3.isi_tuple_none, E3.isi_tuple_bool, E3.isi_tuple_int, E3.isi_tuple_str, E3.isi_tuple_list, E3.isi_tuple_tuple, E3.isN_none, E3.ntN_none, E3.isN_bool, E3.ntN_bool, E3.isN_int, E3.ntN_int, E3.isN_str, E3.ntN_str, E3.isN_list, E3.ntN_list, E3.isN_tuple, E3.ntN_tuple, E3.len_list, E3.len_tup, E3.seq_list, E3.seq_tup, E3.tup_list, E3.tup_tup, E3.lst_list, E3.lst_tup, xM, xV, xB, xTB, x2, xAnd, xNil, xCons, xTup, xLst, xCall, xSl, xPotd, ownXd, potKd, ePotE, dropKV, fnPd, startPd, endPd, slL, eSlL, xPot, ownX, potK, XR.bind_ok, XR.bind_exc, XR.bind_stuck, XR.of_ok, XR.of_exc, XR.of_stuck, thenX_ok, thenX_exc, thenX_stuck, qSet, qRet, qIf, qAsg, qForR, qFor, H70.fR_i, H70.fR_b, H70.fR_ii, H70.fR_c, fnP, startP, endP, fnL, startL, endL, xPotL, xLast, fnN, endN, E3.ix_lst0, Int.cast_ofNat_Int, *])
noncomputable section
open H70
theorem forS_rt {p : GF} {body : SF} {d v : D} {ds : List D} {σ σ1 σ2 : SS} (h1 : p d σ = some σ1) (h2 : body σ1 = .ok (.rt v) σ2) : forS p body (d :: ds) σ = .ok (.rt v) σ2 := by
  rw [forS]
  simp only [h1, h2]
theorem all_in (l : List Pt) (g : Pt → Bool) : allD [.list (l.map fun p => PyData.bool (g p))] = .ok (.bool (l.all g)) := by
  rw [show (l.map fun p => PyData.bool (g p)) = (l.map g).map .bool by rw [List.map_map]; rfl, all_bools, List.all_map]; rfl
theorem any_in (l : List Pt) (g : Pt → Bool) : anyD [.list (l.map fun p => PyData.bool (g p))] = .ok (.bool (l.any g)) := by
  rw [show (l.map fun p => PyData.bool (g p)) = (l.map g).map .bool by rw [List.map_map]; rfl, any_bools, List.any_map]; rfl
end
end H80
namespace H80
open PySem PySem.Spec PyProof.Rows L2 E3 
local macro_rules | `(tactic| walk_at "ev") => `(tactic| try simp (disch := first | decide | decide +kernel | omega) only [fnD, xOr, xNot, startF, endF, sSeq, sAsg, sSet, sSetV, sAsgV, sIf, sRet, sNew, sNewV, sMut, sMutV, sFor, sForR, sFreeze, sNil, sExpr, optK, thenR_ok, thenR_exc, thenR_stuck,
  view, mask, E3.eVar_zero, E3.eVar_succ, eC, e1, e2, eCall, eTup, eLst, eSl, oNone, oSome, eAnd, eOr, eIf, E3.tAnd, E3.tOr, E3.tNot, E3.tB, asB, notD, aNil, aCons, Res.bind_ok, Res.bind_exc, Res.bind_stuck,
  gT, gsCons, gsNil, gN, tupD, lstD, Slot.dat, Slot.shd, List.length_cons, List.length_nil, List.map_cons, List.map_nil, List.replicate, List.append_nil, List.cons_append, List.nil_append, Option.map_some, Option.map_none, Option.bind_some, Option.bind_none,
  List.getElem?_cons_zero, List.getElem?_cons_succ, List.set_cons_zero, List.set_cons_succ, Nat.reduceAdd, Nat.reduceSub, Nat.reduceEqDiff, if_true, if_false, ite_true, ite_false, reduceIte, decide_true, decide_false, reduceCtorEq, Bool.not_true, Bool.not_false, Bool.false_eq_true, Bool.true_eq_false, Bool.or_true, Bool.true_or, Bool.false_or, Bool.or_false, Bool.and_true, Bool.and_false, Bool.true_and, Bool.false_and, addI, subI, ltI, leI, gtI, geI, eqI, neI, E3.negI, ix_cell0, ix_cell1, E3.le0, E3.le1, E3.le2, E3.le3, E3.le4, E3.le5, E3.le6, beq_self_eq_true, Int.reduceBEq, E3.divmodI, E3.modI, E3.fdivI, E3.powL, E3.mulLL, E3.isi_bool_none, E3.isi_bool_bool, E3.isi_bool_int, E3.isi_bool_str, E3.isi_bool_list, E3.isi_bool_tuple, E3.isi_int_none, E3.isi_int_bool, E3.isi_int_int, E3.isi_int_str, E3.isi_int_list, E3.isi_int_tuple, E3.isi_str_none, E3.isi_str_bool, E3.isi_str_int, E3.isi_str_str, E3.isi_str_list, E3.isi_str_tuple, E3.isi_list_none, E3.isi_list_bool, E3.isi_list_int, E3.isi_list_str, E3.isi_list_list, E3.isi_list_tuple, E3.isi_tuple_none, E3.isi_tuple_bool, E3.isi_tuple_int, E3.isi_tuple_str, E3.isi_tuple_list, E3.isi_tuple_tuple, E3.isN_none, E3.ntN_none, E3.isN_bool, E3.ntN_bool, E3.isN_int, E3.ntN_int, E3.isN_str, E3.ntN_str, E3.isN_list, E3.ntN_list, E3.isN_tuple, E3.ntN_tuple, E3.len_list, E3.len_tup, E3.seq_list, E3.seq_tup, E3.tup_list, E3.tup_tup, E3.lst_list, E3.lst_tup, xM, xV, xB, xTB, x2, xAnd, xNil, xCons, xTup, xLst, xCall, xSl, xPotd, ownXd, potKd, ePotE, dropKV, fnPd, startPd, endPd, slL, eSlL, xPot, ownX, potK, XR.bind_ok, XR.bind_exc, XR.bind_stuck, XR.of_ok, XR.of_exc, XR.of_stuck, thenX_ok, thenX_exc, thenX_stuck, qSet, qRet, qIf, qAsg, qForR, qFor, H70.fR_i, H70.fR_b, H70.fR_ii, H70.fR_c, fnP, startP, endP, fnL, startL, endL, xPotL, xLast, fnN, endN, E3.ix_lst0, Int.cast_ofNat_Int])
local macro_rules | `(tactic| walk_at "evs") => `(tactic| try simp (disch := first | decide | decide +kernel | omega) only [fnD, xOr, xNot, startF, endF, sSeq, sAsg, sSet, sSetV, sAsgV, sIf, sRet, sNew, sNewV, sMut, sMutV, sFor, sForR, sFreeze, sNil, sExpr, optK, thenR_ok, thenR_exc, thenR_stuck,
  view, mask, E3.eVar_zero, E3.eVar_succ, eC, e1, e2, eCall, eTup, eLst, eSl, oNone, oSome, eAnd, eOr, eIf, E3.tAnd, E3.tOr, E3.tNot, E3.tB, asB, notD, aNil, aCons, Res.bind_ok, Res.bind_exc, Res.bind_stuck,
  gT, gsCons, gsNil, gN, tupD, lstD, Slot.dat, Slot.shd, List.length_cons, List.length_nil, List.map_cons, List.map_nil, List.replicate, List.append_nil, List.cons_append, List.nil_append, Option.map_some, Option.map_none, Option.bind_some, Option.bind_none,
  List.getElem?_cons_zero, List.getElem?_cons_succ, List.set_cons_zero, List.set_cons_succ, Nat.reduceAdd, Nat.reduceSub, Nat.reduceEqDiff, if_true, if_false, ite_true, ite_false, reduceIte, decide_true, decide_false, reduceCtorEq, Bool.not_true, Bool.not_false, Bool.false_eq_true, Bool.true_eq_false, Bool.or_true, Bool.true_or, Bool.false_or, Bool.or_false, Bool.and_true, Bool.and_false, Bool.true_and, Bool.false_and, addI, subI, ltI, leI, gtI, geI, eqI, neI, E3.negI, ix_cell0, ix_cell1, E3.le0, E3.le1, E3.le2, E3.le3, E3.le4, E3.le5, E3.le6, beq_self_eq_true, Int.reduceBEq, E3.divmodI, E3.modI, E3.fdivI, E3.powL, E3.mulLL, E3.isi_bool_none, E3.isi_bool_bool, E3.isi_bool_int, E3.isi_bool_str, E3.isi_bool_list, E3.isi_bool_tuple, E3.isi_int_none, E3.isi_int_bool, E3.isi_int_int, E3.isi_int_str, E3.isi_int_list, E3.isi_int_tuple, E3.isi_str_none, E3.isi_str_bool, E3.isi_str_int, E3.isi_str_str, E3.isi_str_list, E3.isi_str_tuple, E3.isi_list_none, E3.isi_list_bool, E3.isi_list_int, E3.isi_list_str, E3.isi_list_list, E3.isi_list_tuple, E3.isi_tuple_none, E3.isi_tuple_bool, E3.isi_tuple_int, E3.isi_tuple_str, E3.isi_tuple_list, E3.isi_tuple_tuple, E3.isN_none, E3.ntN_none, E3.isN_bool, E3.ntN_bool, E3.isN_int, E3.ntN_int, E3.isN_str, E3.ntN_str, E3.isN_list, E3.ntN_list, E3.isN_tuple, E3.ntN_tuple, E3.len_list, E3.len_tup, E3.seq_list, E3.seq_tup, E3.tup_list, E3.tup_tup, E3.lst_list, E3.lst_tup, xM, xV, xB, xTB, x2, xAnd, xNil, xCons, xTup, xLst, xCall, xSl, xPotd, ownXd, potKd, ePotE, dropKV, fnPd, startPd, endPd, slL, eSlL, xPot, ownX, potK, XR.bind_ok, XR.bind_exc, XR.bind_stuck, XR.of_ok, XR.of_exc, XR.of_stuck, thenX_ok, thenX_exc, thenX_stuck, qSet, qRet, qIf, qAsg, qForR, qFor, H70.fR_i, H70.fR_b, H70.fR_ii, H70.fR_c, fnP, startP, endP, fnL, startL, endL, xPotL, xLast, fnN, endN, E3.ix_lst0, Int.cast_ofNat_Int, *])
theorem unS (σ : DS) (k : Nat) (d : D) : view ((upS (wipeD σ [k])).set k (some (.sh d))) = (σ.set k none).set k (some d) := by
  unfold view upS wipeD
  rw [List.map_set]
  show ((List.map _ (List.map _ ((wipeD σ []).set k none))).set k _) = _
  rw [List.map_map]
  have : ∀ l : DS, List.map ((fun o : Option Slot => Option.map Slot.dat o) ∘ fun o : Option D => Option.map Slot.sh o) l = l := fun l => by
    conv => rhs; rw [← List.map_id l]
    apply List.map_congr_left
    intro o _
    cases o <;> rfl
  rw [this]
  rfl
theorem lcGT {α : Type} {e q : α → D} {it : DS → Res (List D)} {σ : DS} {k : Nat} {c : DS → Res Bool} {f : DS → Res D} {t : α → Bool} (xs : List α) (hi : it σ = .ok (xs.map e)) (hl : xs.length ≤ 10000) (hc : ∀ x ∈ xs, c ((σ.set k none).set k (some (e x))) = .ok (t x)) (h : ∀ x ∈ xs, t x = true → f ((σ.set k none).set k (some (e x))) = .ok (q x)) :
    eLc it (gN k) [k] c f σ = .ok (.list ((xs.filter t).map q)) := by
  unfold eLc
  rw [hi, Res.bind_ok, if_pos (by rw [List.length_map]; exact Nat.le_trans hl (by decide))]
  have : lcD (gN k) c f (wipeD σ [k]) (xs.map e) = .ok ((xs.filter t).map q) := by
    refine lc_if (g := e) (q := q) (t := t) xs fun x hx => ⟨_, rfl, ?_, fun ht => ?_⟩
    · rw [← hc x hx]; exact congrArg c (unS σ k _)
    · rw [← h x hx ht]; exact congrArg f (unS σ k _)
  rw [this]
  rfl
theorem lcG {α : Type} {e q : α → D} {it : DS → Res (List D)} {σ : DS} {k : Nat} {f : DS → Res D} (xs : List α) (hi : it σ = .ok (xs.map e)) (hl : xs.length ≤ 10000) (h : ∀ x ∈ xs, f ((σ.set k none).set k (some (e x))) = .ok (q x)) :
    eLc it (gN k) [k] tYesD f σ = .ok (.list (xs.map q)) := by
  have := lcGT (c := tYesD) (t := fun _ => true) (e := e) (q := q) (f := f) xs hi hl (fun _ _ => rfl) fun x hx _ => h x hx
  rw [show (xs.filter fun _ => true) = xs from List.filter_eq_self.mpr fun _ _ => rfl] at this
  exact this
end H80
namespace H48
open PySem PySem.Spec PyProof.Rows L2 E3 
local macro_rules | `(tactic| walk_at "ev") => `(tactic| try simp (disch := first | decide | decide +kernel | omega) only [fnD, xOr, xNot, startF, endF, sSeq, sAsg, sSet, sSetV, sAsgV, sIf, sRet, sNew, sNewV, sMut, sMutV, sFor, sForR, sFreeze, sNil, sExpr, optK, thenR_ok, thenR_exc, thenR_stuck,
  view, mask, E3.eVar_zero, E3.eVar_succ, eC, e1, e2, eCall, eTup, eLst, eSl, oNone, oSome, eAnd, eOr, eIf, E3.tAnd, E3.tOr, E3.tNot, E3.tB, asB, notD, aNil, aCons, Res.bind_ok, Res.bind_exc, Res.bind_stuck,
  gT, gsCons, gsNil, gN, tupD, lstD, Slot.dat, Slot.shd, List.length_cons, List.length_nil, List.map_cons, List.map_nil, List.replicate, List.append_nil, List.cons_append, List.nil_append, Option.map_some, Option.map_none, Option.bind_some, Option.bind_none,
  List.getElem?_cons_zero, List.getElem?_cons_succ, List.set_cons_zero, List.set_cons_succ, Nat.reduceAdd, Nat.reduceSub, Nat.reduceEqDiff, if_true, if_false, ite_true, ite_false, reduceIte, decide_true, decide_false, reduceCtorEq, Bool.not_true, Bool.not_false, Bool.false_eq_true, Bool.true_eq_false, Bool.or_true, Bool.true_or, Bool.false_or, Bool.or_false, Bool.and_true, Bool.and_false, Bool.true_and, Bool.false_and, addI, subI, ltI, leI, gtI, geI, eqI, neI, E3.negI, ix_cell0, ix_cell1, E3.le0, E3.le1, E3.le2, E3.le3, E3.le4, E3.le5, E3.le6, beq_self_eq_true, Int.reduceBEq, E3.divmodI, E3.modI, E3.fdivI, E3.powL, E3.mulLL, E3.isi_bool_none, E3.isi_bool_bool, E3.isi_bool_int, E3.isi_bool_str, E3.isi_bool_list, E3.isi_bool_tuple, E3.isi_int_none, E3.isi_int_bool, E3.isi_int_int, E3.isi_int_str, E3.isi_int_list, E3.isi_int_tuple, E3.isi_str_none, E3.isi_str_bool, E3.isi_str_int, E3.isi_str_str, E3.isi_str_list, E3.isi_str_tuple, E3.isi_list_none, E3.isi_list_bool, E3.isi_list_int, E3.isi_list_str, E3.isi_list_list, E3.isi_list_tuple, E3.isi_tuple_none, E3.isi_tuple_bool, E3.isi_tuple_int, E3.isi_tuple_str, E3.isi_tuple_list, E3.isi_tuple_tuple, E3.isN_none, E3.ntN_none, E3.isN_bool, E3.ntN_bool, E3.isN_int, E3.ntN_int, E3.isN_str, E3.ntN_str, E3.isN_list, E3.ntN_list, E3.isN_tuple, E3.ntN_tuple, E3.len_list, E3.len_tup, E3.seq_list, E3.seq_tup, E3.tup_list, E3.tup_tup, E3.lst_list, E3.lst_tup, xM, xV, xB, xTB, x2, xAnd, xNil, xCons, xTup, xLst, xCall, xSl, xPotd, ownXd, potKd, ePotE, dropKV, fnPd, startPd, endPd, slL, eSlL, xPot, ownX, potK, XR.bind_ok, XR.bind_exc, XR.bind_stuck, XR.of_ok, XR.of_exc, XR.of_stuck, thenX_ok, thenX_exc, thenX_stuck, qSet, qRet, qIf, qAsg, qForR, qFor, H70.fR_i, H70.fR_b, H70.fR_ii, H70.fR_c, fnP, startP, endP, fnL, startL, endL, xPotL, xLast, fnN, endN, E3.ix_lst0, Int.cast_ofNat_Int])
local macro_rules | `(tactic| walk_at "evs") => `(tactic| try simp (disch := first | decide | decide +kernel | omega) only [fnD, xOr, xNot, startF, endF, sSeq, sAsg, sSet, sSetV, sAsgV, sIf, sRet, sNew, sNewV, sMut, sMutV, sFor, sForR, sFreeze, sNil, sExpr, optK, thenR_ok, thenR_exc, thenR_stuck,
  view, mask, E3.eVar_zero, E3.eVar_succ, eC, e1, e2, eCall, eTup, eLst, eSl, oNone, oSome, eAnd, eOr, eIf, E3.tAnd, E3.tOr, E3.tNot, E3.tB, asB, notD, aNil, aCons, Res.bind_ok, Res.bind_exc, Res.bind_stuck,
  gT, gsCons, gsNil, gN, tupD, lstD, Slot.dat, Slot.shd, List.length_cons, List.length_nil, List.map_cons, List.map_nil, List.replicate, List.append_nil, List.cons_append, List.nil_append, Option.map_some, Option.map_none, Option.bind_some, Option.bind_none,
  List.getElem?_cons_zero, List.getElem?_cons_succ, List.set_cons_zero, List.set_cons_succ, Nat.reduceAdd, Nat.reduceSub, Nat.reduceEqDiff, if_true, if_false, ite_true, ite_false, reduceIte, decide_true, decide_false, reduceCtorEq, Bool.not_true, Bool.not_false, Bool.false_eq_true, Bool.true_eq_false, Bool.or_true, Bool.true_or, Bool.false_or, Bool.or_false, Bool.and_true, Bool.and_false, Bool.true_and, Bool.false_and, addI, subI, ltI, leI, gtI, geI, eqI, neI, E3.negI, ix_cell0, ix_cell1, E3.le0, E3.le1, E3.le2, E3.le3, E3.le4, E3.le5, E3.le6, beq_self_eq_true, Int.reduceBEq, E3.divmodI, E3.modI, E3.fdivI, E3.powL, E3.mulLL, E3.isi_bool_none, E3.isi_bool_bool, E3.isi_bool_int, E3.isi_bool_str, E3.isi_bool_list, E3.isi_bool_tuple, E3.isi_int_none, E3.isi_int_bool, E3.isi_int_int, E3.isi_int_str, E3.isi_int_list, E3.isi_int_tuple, E3.isi_str_none, E3.isi_str_bool, E3.isi_str_int, E3.isi_str_str, E3.isi_str_list, E3.isi_str_tuple, E3.isi_list_none, E3.isi_list_bool, E3.isi_list_int, E3.isi_list_str, E3.isi_list_list, E3.isi_list_tuple, E3.isi_tuple_none, E3.isi_tuple_bool, E3.isi_tuple_int, E3.isi_tuple_str, E3.isi_tuple_list, E3.isi_tuple_tuple, E3.isN_none, E3.ntN_none, E3.isN_bool, E3.ntN_bool, E3.isN_int, E3.ntN_int, E3.isN_str, E3.ntN_str, E3.isN_list, E3.ntN_list, E3.isN_tuple, E3.ntN_tuple, E3.len_list, E3.len_tup, E3.seq_list, E3.seq_tup, E3.tup_list, E3.tup_tup, E3.lst_list, E3.lst_tup, xM, xV, xB, xTB, x2, xAnd, xNil, xCons, xTup, xLst, xCall, xSl, xPotd, ownXd, potKd, ePotE, dropKV, fnPd, startPd, endPd, slL, eSlL, xPot, ownX, potK, XR.bind_ok, XR.bind_exc, XR.bind_stuck, XR.of_ok, XR.of_exc, XR.of_stuck, thenX_ok, thenX_exc, thenX_stuck, qSet, qRet, qIf, qAsg, qForR, qFor, H70.fR_i, H70.fR_b, H70.fR_ii, H70.fR_c, fnP, startP, endP, fnL, startL, endL, xPotL, xLast, fnN, endN, E3.ix_lst0, Int.cast_ofNat_Int, *])
open H70
noncomputable section
theorem eqv_tups (a b : Se) : PyData.eqv (tupC a) (tupC b) = decide (a = b) := eqv_cells a b
theorem mem_tups (a : Se) (F : List Se) : memD (tupC a) (F.map tupC) = decide (a ∈ F) := by
  unfold memD
  induction F with
  | nil => simp
  | cons b F ih =>
    rw [List.map_cons, List.any_cons, ih, eqv_tups]
    by_cases e : b = a
    · subst e; simp
    · have e' : a ≠ b := fun z => e z.symm
      simp [e, e']
theorem lay_sets : ∀ F : List Se, PyData.canLayAll0 (F.map tupC) = true
  | [] => rfl
  | g :: gs => by
    have h : PyData.canLay0 (tupC g) = true := lay_cells g
    simp only [List.map_cons, PyData.canLayAll0, lay_sets gs, h, Bool.and_self]
theorem deep_sets : ∀ F : List Se, PyData.depthAll (F.map tupC) ≤ 2
  | [] => by simp [PyData.depthAll]
  | g :: gs => by
    have h := deep_cells g
    have h2 := deep_sets gs
    have h3 : PyData.depth (tupC g) = 1 + PyData.depthAll (g.map cellD) := by
      show PyData.depth (.tuple _) = _
      simp only [PyData.depth]
      omega
    simp only [List.map_cons, PyData.depthAll]
    omega
theorem shaped_sets (F : List Se) : SeqAt.shaped (.list (F.map tupC)) = true := by
  have h1 := lay_sets F
  have h2 := deep_sets F
  unfold SeqAt.shaped
  simp only [PyData.canLay0, PyData.depth, h1]
  simp
  omega
theorem notIn_sets (a : Se) (F : List Se) : notInG (tupC a) (.list (F.map tupC)) = .ok (.bool (!decide (a ∈ F))) := by
  have hs : (SeqAt.shaped (tupC a) && SeqAt.shaped (.list (F.map tupC))) = true := by rw [shaped_sets, Bool.and_true]; exact shaped_cells a
  show (if (SeqAt.shaped (tupC a) && SeqAt.shaped (.list (F.map tupC))) = true then Res.ok (PyData.bool !memD (tupC a) (F.map tupC)) else .stuck) = _
  rw [if_pos hs, mem_tups]
theorem eqv_all_sets : ∀ F G : List Se, PyData.eqvAll (F.map tupC) (G.map tupC) = decide (F = G)
  | [], [] => rfl
  | [], _ :: _ => rfl
  | _ :: _, [] => rfl
  | a :: F, b :: G => by
    show (PyData.eqv (tupC a) (tupC b) && PyData.eqvAll (F.map tupC) (G.map tupC)) = _
    rw [eqv_tups, eqv_all_sets F G]
    by_cases e : a = b <;> by_cases e2 : F = G <;> simp [e, e2]
theorem eq_sets (F G : List Se) : eqD (.list (F.map tupC)) (.list (G.map tupC)) = .ok (.bool (decide (F = G))) := by
  unfold eqD
  rw [shaped_sets, shaped_sets]
  show Res.ok (PyData.bool (PyData.eqvAll (F.map tupC) (G.map tupC))) = _
  rw [eqv_all_sets]
theorem ne_sets (F G : List Se) : neD (.list (F.map tupC)) (.list (G.map tupC)) = .ok (.bool (!decide (F = G))) := by
  unfold neD
  rw [shaped_sets, shaped_sets]
  show Res.ok (PyData.bool (!PyData.eqvAll (F.map tupC) (G.map tupC))) = _
  rw [eqv_all_sets]
def leS (a b : Se) : Bool := leD' (tupC a) (tupC b)
def srtS (F : List Se) : List Se := F.mergeSort leS
theorem srtS_perm (F : List Se) : (srtS F).Perm F := List.mergeSort_perm _ _
theorem mem_srtS {F : List Se} {a : Se} : a ∈ srtS F ↔ a ∈ F := (srtS_perm F).mem_iff
theorem sort_sets (F : List Se) : sortL (F.map tupC) = (srtS F).map tupC := (PySem.W.sort_maps (r := leS) (s := leD') tupC fun _ _ _ _ => rfl).symm
theorem toks_cells : ∀ (a b : Se) (l m : List (Int ⊕ List Nat)), PySem.W.keyToksAll (a.map cellD) ++ l = PySem.W.keyToksAll (b.map cellD) ++ m → a = b ∧ l = m
  | [], [], l, m, e => ⟨rfl, List.append_cancel_left e⟩
  | [], b :: bs, l, m, e => by
    rw [List.map_cons, List.map_nil, PySem.W.keyToksAll, PySem.W.keyToksAll] at e
    simp only [List.cons_append, List.nil_append, List.cons.injEq, Sum.inl.injEq] at e
    exact absurd e.1 (by decide)
  | a :: as, [], l, m, e => by
    rw [List.map_cons, List.map_nil, PySem.W.keyToksAll, PySem.W.keyToksAll] at e
    simp only [List.cons_append, List.nil_append, List.cons.injEq, Sum.inl.injEq] at e
    exact absurd e.1 (by decide)
  | a :: as, b :: bs, l, m, e => by
    rw [List.map_cons, List.map_cons, PySem.W.keyToksAll, PySem.W.keyToksAll] at e
    have ka : ∀ p : Pt, PySem.W.keyToks (cellD p) = [.inl 1, .inl p.1, .inl 1, .inl p.2, .inl 0] := fun p => by
      show PySem.W.keyToks (.tuple [.int p.1, .int p.2]) = _
      simp only [PySem.W.keyToks, PySem.W.keyToksAll, List.cons_append, List.nil_append]
    rw [ka, ka] at e
    simp only [List.cons_append, List.nil_append, List.cons.injEq, Sum.inl.injEq, true_and, List.append_assoc] at e
    obtain ⟨e1, e2, e3⟩ := e
    obtain ⟨r1, r2⟩ := toks_cells as bs l m e3
    exact ⟨by rw [r1, show a = b from Prod.ext e1 e2], r2⟩
theorem srtS_eq {F G : List Se} (pm : F.Perm G) : srtS F = srtS G := by
  have tot := PySem.W.sortLe_total (PyProof.Rows.listOrd PyProof.Rows.itemOrd) false (fun b : Se => PySem.W.keyToks (tupC b))
  have s : ∀ l : List Se, (srtS l).Pairwise fun a b => leS a b = true := fun l => List.pairwise_mergeSort (fun a b c h1 h2 => tot.trans a b c h1 h2) (fun a b => by rw [Bool.or_eq_true]; exact tot.total a b) _
  refine List.Perm.eq_of_pairwise (le := fun a b => leS a b = true) (fun a b _ _ h1 h2 => ?_) (s F) (s G) (((List.mergeSort_perm _ _).trans pm).trans (List.mergeSort_perm _ _).symm)
  have h1 : (!PySem.W.dataLt (tupC b) (tupC a)) = true := h1
  have h2 : (!PySem.W.dataLt (tupC a) (tupC b)) = true := h2
  have e := PyProof.Rows.lex_total (O := PyProof.Rows.itemOrd) (PySem.W.keyToks (tupC a)) (PySem.W.keyToks (tupC b)) (show PySem.W.dataLt (tupC a) (tupC b) = false by simpa using h2) (show PySem.W.dataLt (tupC b) (tupC a) = false by simpa using h1)
  have e : PySem.W.keyToksAll (a.map cellD) = PySem.W.keyToksAll (b.map cellD) := e
  exact (toks_cells a b [] [] (by rw [List.append_nil, List.append_nil]; exact e)).1
theorem srtS_same {F G : List Se} (n1 : F.Nodup) (n2 : G.Nodup) (h : ∀ a, a ∈ F ↔ a ∈ G) : srtS F = srtS G := srtS_eq ((List.perm_ext_iff_of_nodup n1 n2).mpr h)
theorem alike_sets (a b : Se) : PySem.W.alike (tupC a) (tupC b) = true := by
  have key : ∀ a b : Se, PySem.W.alikeAll (a.map cellD) (b.map cellD) = true := by
    intro a
    induction a with
    | nil => intro b; rfl
    | cons p a ih =>
      intro b
      cases b with
      | nil => rfl
      | cons q b =>
        rw [List.map_cons, List.map_cons]
        show (PySem.W.alike (cellD p) (cellD q) && PySem.W.alikeAll (a.map cellD) (b.map cellD)) = true
        rw [ih b]
        rfl
  exact key a b
theorem sorted_sets (F : List Se) (hl : F.length ≤ 100000) : sortedTD [.list (F.map tupC)] = .ok (.list ((srtS F).map tupC)) := by
  have ok : sortOkT (F.map tupC) = true := by
    have h1 : ((F.map tupC).all fun d => (F.map tupC).all fun e => PySem.W.alike d e) = true := List.all_eq_true.mpr fun d hd => List.all_eq_true.mpr fun e he => by
      obtain ⟨a, _, rfl⟩ := List.mem_map.mp hd
      obtain ⟨b, _, rfl⟩ := List.mem_map.mp he
      exact alike_sets a b
    have h2 : (F.map tupC).all isTup = true := List.all_eq_true.mpr fun d hd => by
      obtain ⟨a, _, rfl⟩ := List.mem_map.mp hd
      rfl
    unfold sortOkT
    rw [h1, h2, lay_sets, decide_eq_true (Nat.le_trans (deep_sets F) (by decide)), decide_eq_true (by rw [List.length_map, sizeLine_eq]; omega)]
    rfl
  show (if sortOkT (F.map tupC) = true then Res.ok (PyData.list (sortL (F.map tupC))) else .stuck) = _
  rw [if_pos ok, sort_sets]
def srtN (F : List Se) : List Se := F.mergeSort fun a b => decide (a.length ≤ b.length)
theorem srtN_perm (F : List Se) : (srtN F).Perm F := List.mergeSort_perm _ _
theorem srtN_pw (F : List Se) : (srtN F).Pairwise fun a b => a.length ≤ b.length := by
  have := List.pairwise_mergeSort (le := fun a b : Se => decide (a.length ≤ b.length)) (fun a b c h1 h2 => decide_eq_true (Nat.le_trans (of_decide_eq_true h1) (of_decide_eq_true h2))) (fun a b => by
    rw [Bool.or_eq_true, decide_eq_true_iff, decide_eq_true_iff]
    exact Nat.le_total _ _) F
  exact this.imp fun h => of_decide_eq_true h
theorem sortN_sets (F : List Se) (hl : F.length ≤ 100000) : sortLenD [.list (F.map tupC)] = .ok (.list ((srtN F).map tupC)) := by
  have h2 : (F.map tupC).all isTup = true := List.all_eq_true.mpr fun d hd => by
    obtain ⟨a, _, rfl⟩ := List.mem_map.mp hd
    rfl
  show (if ((F.map tupC).all isTup && decide ((F.map tupC).length ≤ sizeLine)) = true then Res.ok (PyData.list ((F.map tupC).mergeSort lenLe)) else .stuck) = _
  rw [h2, decide_eq_true (by rw [List.length_map, sizeLine_eq]; omega), if_pos (by decide)]
  congr 2
  refine (PySem.W.sort_maps (r := fun a b : Se => decide (a.length ≤ b.length)) (s := lenLe) tupC fun a _ b _ => ?_).symm
  show decide (a.length ≤ b.length) = decide ((((a.map cellD).length : Nat) : Int) ≤ (((b.map cellD).length : Nat) : Int))
  rw [List.length_map, List.length_map]
  exact decide_eq_decide.mpr (by omega)
def I_looked_1 : DS → Res (List D) := (fun σ => ((eCall sortLenD (aCons (eVar 0) aNil)) σ).bind seqOf)
def B_looked_1 (HA : List D → Res D) : SF := (sSeq (sIf (E3.tAnd (tB (e2 notInG (eVar 2) (eVar 1))) (E3.tNot (E3.tB (eCall HA (aCons (eVar 2) (aCons (eVar 1) aNil)))))) (sMut 1 appendM (aCons (eVar 2) aNil)) sNil)
  (sIf (E3.tOr (tB (e2 gtD (eCall lenD (aCons (eVar 1) aNil)) (eC (.int 60)))) (tB (e2 gtD (eCall lenD (aCons (e2 ixD (eVar 1) (e1 negD (eC (.int 1)))) aNil)) (eC (.int 400))))) (sRaise ⟨"TooMany", none⟩) sNil))
def D_looked (HA : List D → Res D) : List D → Res D := fnD 3 1 (sSeq (sNew 1 (eLst aNil))
  (sSeq (sFor I_looked_1 (gN 2)
  (B_looked_1 HA))
  (sFreeze 1 (sRet (eCall sortedTD (aCons (eVar 1) aNil))))))
abbrev tmX : Exn := ⟨"TooMany", none⟩
def HasAny (HA : List D → Res D) : Prop := ∀ (one : Se) (sets : List Se), one.length ≤ 10000 → sets.length ≤ 10000 → (∀ s ∈ sets, s.length ≤ 10000) → HA [tupC one, .list (sets.map tupC)] = .ok (.bool (lessIn one sets))
abbrev sL (x0 : D) (acc : List Se) (x2 : Option Slot) : SS := [some (.sh x0), some (.ow (.list (acc.map tupC))), x2]
theorem ix_last {l : List D} {d : D} (h : l.getLast? = some d) : ixD (.list l) (.int (-1)) = .ok d := by
  show optR (L2.atI l (-1)) = _
  have hn : l ≠ [] := fun z => by rw [z] at h; cases h
  have hp : 0 < l.length := List.length_pos_iff.mpr hn
  have : L2.atI l (-1) = some d := by
    unfold L2.atI ixN
    rw [if_neg (by omega), if_pos (by omega)]
    rw [List.getLast?_eq_getElem?] at h
    show l[((-1 : Int) + (l.length : Int)).toNat]? = _
    rw [show ((-1 : Int) + (l.length : Int)).toNat = l.length - 1 by omega]
    exact h
  rw [this]; rfl
theorem look_chk (HA : List D → Res D) (x0 : D) (one : Se) (acc : List Se) (h0 : acc ≠ []) (hl : acc.length ≤ 100) : (sIf (E3.tOr (tB (e2 gtD (eCall lenD (aCons (eVar 1) aNil)) (eC (.int 60)))) (tB (e2 gtD (eCall lenD (aCons (e2 ixD (eVar 1) (e1 negD (eC (.int 1)))) aNil)) (eC (.int 400))))) (sRaise ⟨"TooMany", none⟩) sNil) (sL x0 acc (some (.sh (tupC one)))) = if tooS acc = true then .exc tmX (sL x0 acc (some (.sh (tupC one)))) else .ok .nx (sL x0 acc (some (.sh (tupC one)))) := by
  obtain ⟨l, hlast⟩ : ∃ l, acc.getLast? = some l := by
    cases z : acc.getLast? with
    | none => exact absurd (List.getLast?_eq_none_iff.mp z) h0
    | some l => exact ⟨l, rfl⟩
  have ix : ixD (.list (acc.map tupC)) (.int (-1)) = .ok (tupC l) := ix_last (by rw [List.getLast?_map, hlast]; rfl)
  have ng : negD (.int 1) = .ok (.int (-1)) := rfl
  have l1 : lenD [.list (acc.map tupC)] = .ok (.int ((acc.length : Nat) : Int)) := by show Res.ok (PyData.int (((acc.map tupC).length : Nat) : Int)) = _; rw [List.length_map]
  have l2 : lenD [tupC l] = .ok (.int ((l.length : Nat) : Int)) := by show Res.ok (PyData.int (((l.map cellD).length : Nat) : Int)) = _; rw [List.length_map]
  have t : tooS acc = (decide (((acc.length : Nat) : Int) > 60) || decide (((l.length : Nat) : Int) > 400)) := by
    unfold tooS
    rw [hlast]
    show (decide (60 < acc.length) || decide (400 < l.length)) = _
    rw [show decide (60 < acc.length) = decide (((acc.length : Nat) : Int) > 60) from decide_eq_decide.mpr (by omega), show decide (400 < l.length) = decide (((l.length : Nat) : Int) > 400) from decide_eq_decide.mpr (by omega)]
  rw [t]
  have le1 : (((acc.map tupC).length : Nat) : Int) = ((acc.length : Nat) : Int) := by rw [List.length_map]
  have le2 : (((l.map cellD).length : Nat) : Int) = ((l.length : Nat) : Int) := by rw [List.length_map]
  generalize ((acc.length : Nat) : Int) = n at *
  generalize ((l.length : Nat) : Int) = m at *
  simp only [sL]
  rw [show tupC l = .tuple (l.map cellD) from rfl] at ix l2
  generalize l.map cellD = ld at *
  generalize tupC one = od at *
  generalize acc.map tupC = ad at *
  by_cases c : n > 60
  · rw [decide_eq_true c, Bool.true_or, if_pos rfl]
    walk_at "ev"
    try rw [le1]
    try (rw [l1]; walk_at "ev")
    try rw [decide_eq_true c]
    try walk_at "ev"
    try rfl
  · rw [decide_eq_false c, Bool.false_or]
    by_cases c2 : m > 400
    · rw [decide_eq_true c2, if_pos rfl]
      walk_at "ev"
      try rw [le1]
      try (rw [l1]; walk_at "ev")
      try (rw [decide_eq_false c]; walk_at "ev")
      try (rw [ng]; walk_at "ev")
      rw [ix]; walk_at "ev"
      try rw [le2]
      try (rw [l2]; walk_at "ev")
      try rw [decide_eq_true c2]
      try walk_at "ev"
      try rfl
    · rw [decide_eq_false c2, if_neg (by decide)]
      walk_at "ev"
      try rw [le1]
      try (rw [l1]; walk_at "ev")
      try (rw [decide_eq_false c]; walk_at "ev")
      try (rw [ng]; walk_at "ev")
      rw [ix]; walk_at "ev"
      try rw [le2]
      try (rw [l2]; walk_at "ev")
      try rw [decide_eq_false c2]
      try walk_at "ev"
      try rfl
theorem look_add (HA : List D → Res D) (hH : HasAny HA) (x0 : D) (one : Se) (acc : List Se) (ho : one.length ≤ 10000) (hl : acc.length ≤ 100) (hs : ∀ s ∈ acc, s.length ≤ 10000) : (sIf (E3.tAnd (tB (e2 notInG (eVar 2) (eVar 1))) (E3.tNot (E3.tB (eCall HA (aCons (eVar 2) (aCons (eVar 1) aNil)))))) (sMut 1 appendM (aCons (eVar 2) aNil)) sNil) (sL x0 acc (some (.sh (tupC one)))) = .ok .nx (sL x0 (addS acc one) (some (.sh (tupC one)))) := by
  have n := notIn_sets one acc
  have h := hH one acc ho (by omega) hs
  have ap : appendM (acc.map tupC) [tupC one] = some (.none, (acc ++ [one]).map tupC) := by
    show (if (acc.map tupC).length < sizeLine then some (PyData.none, acc.map tupC ++ [tupC one]) else none) = _
    rw [if_pos (by rw [List.length_map, sizeLine_eq]; omega), List.map_append]
    rfl
  unfold addS
  simp only [sL]
  generalize hA2 : (acc ++ [one]).map tupC = A2 at *
  generalize hA1 : acc.map tupC = A1 at *
  generalize tupC one = od at *
  generalize decide (one ∈ acc) = b1 at *
  generalize lessIn one acc = b2 at *
  cases b1 with
  | true =>
    rw [if_neg (by rw [Bool.not_true, Bool.false_and]; exact Bool.false_ne_true), hA1]
    walk_at "ev"
    rw [n]; walk_at "ev"
  | false =>
    cases b2 with
    | true =>
      rw [if_neg (by decide), hA1]
      walk_at "ev"
      rw [n]; walk_at "ev"
      rw [h]; walk_at "ev"
    | false =>
      rw [if_pos (by decide), hA2]
      walk_at "ev"
      rw [n]; walk_at "ev"
      rw [h]; walk_at "ev"
      try simp only [ownL, List.getElem?_cons_zero, List.getElem?_cons_succ]
      try walk_at "ev"
      rw [ap]
      try simp only [mutK, List.getElem?_cons_zero, List.getElem?_cons_succ]
      try walk_at "ev"
      try rfl
theorem seq2 {A B : SF} {σ σ1 : SS} {r : SR} (h : A σ = .ok .nx σ1) (k : B σ1 = r) : sSeq A B σ = r := by
  unfold sSeq
  rw [h]
  exact k
theorem forS_exc {p : GF} {body : SF} {d : D} {ds : List D} {x : Exn} {σ σ1 σ2 : SS} (h1 : p d σ = some σ1) (h2 : body σ1 = .exc x σ2) : forS p body (d :: ds) σ = .exc x σ2 := by
  rw [forS]
  simp only [h1, h2]
theorem addS_ne {acc : List Se} {one : Se} : addS acc one ≠ [] := by
  unfold addS
  split
  · exact fun z => by cases List.append_eq_nil_iff.mp z; rename_i z2; cases z2
  · rename_i h
    intro z
    rw [z] at h
    exact h rfl
theorem addS_len {acc : List Se} {one : Se} : (addS acc one).length ≤ acc.length + 1 := by
  unfold addS
  split
  · rw [List.length_append, List.length_singleton]; exact Nat.le_refl _
  · omega
theorem addS_mem {acc : List Se} {one a : Se} (h : a ∈ addS acc one) : a ∈ acc ∨ a = one := by
  unfold addS at h
  split at h
  · rcases List.mem_append.mp h with h | h
    · exact .inl h
    · exact .inr (List.mem_singleton.mp h)
  · exact .inl h
theorem look_turns (HA : List D → Res D) (hH : HasAny HA) (x0 : D) : ∀ (F acc : List Se) (x2 : Option Slot), (∀ s ∈ F, s.length ≤ 10000) → (∀ s ∈ acc, s.length ≤ 10000) → acc.length ≤ 60 →
    (∀ G, lookF acc F = some G → ∃ y2, forS (gN 2) (B_looked_1 HA) (F.map tupC) (sL x0 acc x2) = .ok .nx (sL x0 G y2)) ∧ (lookF acc F = none → ∃ σ, forS (gN 2) (B_looked_1 HA) (F.map tupC) (sL x0 acc x2) = .exc tmX σ)
  | [], acc, x2, _, _, _ => ⟨fun G e => (by cases e; exact ⟨x2, rfl⟩), fun e => (by cases e)⟩
  | one :: F, acc, x2, hF, hs, hl => by
    have a := look_add HA hH x0 one acc (hF one List.mem_cons_self) (by omega) hs
    have c := look_chk HA x0 one (addS acc one) addS_ne (by have := addS_len (acc := acc) (one := one); omega)
    have b : B_looked_1 HA (sL x0 acc (some (.sh (tupC one)))) = _ := seq2 a c
    rw [lookF, List.map_cons]
    have pt : (gN 2) (tupC one) (sL x0 acc x2) = some (sL x0 acc (some (.sh (tupC one)))) := rfl
    by_cases t : tooS (addS acc one) = true
    · rw [if_pos t] at b ⊢
      exact ⟨fun G e => (by cases e), fun _ => ⟨_, forS_exc pt b⟩⟩
    · rw [if_neg t] at b ⊢
      have l60 : (addS acc one).length ≤ 60 := by
        unfold tooS at t
        rw [Bool.or_eq_true, decide_eq_true_iff, decide_eq_true_iff, not_or] at t
        omega
      obtain ⟨k1, k2⟩ := look_turns HA hH x0 F (addS acc one) (some (.sh (tupC one))) (fun s h => hF s (List.mem_cons_of_mem _ h)) (fun s h => by
        rcases addS_mem h with h | h
        · exact hs s h
        · rw [h]; exact hF one List.mem_cons_self) l60
      refine ⟨fun G e => ?_, fun e => ?_⟩
      · obtain ⟨y2, q⟩ := k1 G e
        exact ⟨y2, (forS_cons pt b).trans q⟩
      · obtain ⟨σ, q⟩ := k2 e
        exact ⟨σ, (forS_cons pt b).trans q⟩
def TL : SF := (sFreeze 1 (sRet (eCall sortedTD (aCons (eVar 1) aNil))))
theorem tl_ok (x0 : D) (G : List Se) (y2 : Option Slot) (hl : G.length ≤ 100000) : ∃ σ, TL (sL x0 G y2) = .ok (.rt (.list ((srtS G).map tupC))) σ := by
  have s := sorted_sets G hl
  refine ⟨[some (.sh x0), some (.sh (.list (G.map tupC))), y2], ?_⟩
  unfold TL
  simp only [sL]
  generalize G.map tupC = g1 at *
  generalize (srtS G).map tupC = g2 at *
  walk_at "ev"
  rw [s]; walk_at "ev"
  try rfl
theorem lk_fin (FF TT : SF) (a d : D) (σ τ : SS) (f : FF [some (.sh a), some (.ow (.list [])), none] = .ok .nx σ) (t : TT σ = .ok (.rt d) τ) : fnD 3 1 (sSeq (sNew 1 (eLst aNil)) (sSeq FF TT)) [a] = .ok d := by
  walk_at "ev"
  rw [f]; walk_at "ev"
  rw [t]
  try rfl
theorem lk_exc (FF TT : SF) (a : D) (σ : SS) (x : Exn) (f : FF [some (.sh a), some (.ow (.list [])), none] = .exc x σ) : fnD 3 1 (sSeq (sNew 1 (eLst aNil)) (sSeq FF TT)) [a] = .exc x := by
  walk_at "ev"
  rw [f]
  try rfl
def lookS (F : List Se) : Option (List Se) := (lookF [] (srtN F)).map srtS
theorem looked_ok (HA : List D → Res D) (hH : HasAny HA) (F : List Se) (hl : F.length ≤ 100000) (hF : ∀ s ∈ F, s.length ≤ 10000) : D_looked HA [.list (F.map tupC)] = match lookS F with | some G => .ok (.list (G.map tupC)) | none => .exc tmX := by
  obtain ⟨k1, k2⟩ := look_turns HA hH (.list (F.map tupC)) (srtN F) [] none (fun s h => hF s ((srtN_perm F).mem_iff.mp h)) (fun s h => by cases h) (Nat.zero_le _)
  have it : I_looked_1 (mask (sL (.list (F.map tupC)) [] none)) = .ok ((srtN F).map tupC) := by
    have := sortN_sets F hl
    unfold I_looked_1
    simp only [sL]
    generalize F.map tupC = fd at *
    walk_at "ev"
    rw [this]
    rfl
  unfold lookS D_looked
  cases z : lookF [] (srtN F) with
  | some G =>
    obtain ⟨y2, e⟩ := k1 G z
    have f : sFor I_looked_1 (gN 2) (B_looked_1 HA) (sL (.list (F.map tupC)) [] none) = .ok .nx (sL (.list (F.map tupC)) G y2) := by
      unfold sFor
      rw [it]
      exact e
    have lG : G.length ≤ 100000 := by
      obtain ⟨j1, _⟩ := lookF_inv (F := srtN F) (srtN F) [] [] rfl (srtN_pw F) List.nodup_nil (fun a => ⟨fun h => (by cases h), fun h => (by cases h.1)⟩) (fun a h => (by cases h)) (Nat.zero_le _)
      have := (j1 G z).2.2.1
      omega
    obtain ⟨τ, t⟩ := tl_ok (.list (F.map tupC)) G y2 lG
    exact lk_fin _ _ _ _ _ _ f t
  | none =>
    obtain ⟨σ, e⟩ := k2 z
    refine lk_exc _ _ _ σ _ ?_
    show sFor I_looked_1 (gN 2) (B_looked_1 HA) (sL (.list (F.map tupC)) [] none) = _
    unfold sFor
    rw [it]
    exact e
end
end H48
namespace H48
open PySem PySem.Spec PyProof.Rows L2 E3 
local macro_rules | `(tactic| walk_at "ev") => `(tactic| try simp (disch := first | decide | decide +kernel | omega) only [fnD, xOr, xNot, startF, endF, sSeq, sAsg, sSet, sSetV, sAsgV, sIf, sRet, sNew, sNewV, sMut, sMutV, sFor, sForR, sFreeze, sNil, sExpr, optK, thenR_ok, thenR_exc, thenR_stuck,
  view, mask, E3.eVar_zero, E3.eVar_succ, eC, e1, e2, eCall, eTup, eLst, eSl, oNone, oSome, eAnd, eOr, eIf, E3.tAnd, E3.tOr, E3.tNot, E3.tB, asB, notD, aNil, aCons, Res.bind_ok, Res.bind_exc, Res.bind_stuck,
  gT, gsCons, gsNil, gN, tupD, lstD, Slot.dat, Slot.shd, List.length_cons, List.length_nil, List.map_cons, List.map_nil, List.replicate, List.append_nil, List.cons_append, List.nil_append, Option.map_some, Option.map_none, Option.bind_some, Option.bind_none,
  List.getElem?_cons_zero, List.getElem?_cons_succ, List.set_cons_zero, List.set_cons_succ, Nat.reduceAdd, Nat.reduceSub, Nat.reduceEqDiff, if_true, if_false, ite_true, ite_false, reduceIte, decide_true, decide_false, reduceCtorEq, Bool.not_true, Bool.not_false, Bool.false_eq_true, Bool.true_eq_false, Bool.or_true, Bool.true_or, Bool.false_or, Bool.or_false, Bool.and_true, Bool.and_false, Bool.true_and, Bool.false_and, addI, subI, ltI, leI, gtI, geI, eqI, neI, E3.negI, ix_cell0, ix_cell1, E3.le0, E3.le1, E3.le2, E3.le3, E3.le4, E3.le5, E3.le6, beq_self_eq_true, Int.reduceBEq, E3.divmodI, E3.modI, E3.fdivI, E3.powL, E3.mulLL, E3.isi_bool_none, E3.isi_bool_bool, E3.isi_bool_int, E3.isi_bool_str, E3.isi_bool_list, E3.isi_bool_tuple, E3.isi_int_none, E3.isi_int_bool, E3.isi_int_int, E3.isi_int_str, E3.isi_int_list, E3.isi_int_tuple, E3.isi_str_none, E3.isi_str_bool, E3.isi_str_int, E3.isi_str_str, E3.isi_str_list, E3.isi_str_tuple, E3.isi_list_none, E3.isi_list_bool, E3.isi_list_int, E3.isi_list_str, E3.isi_list_list, E3.isi_list_tuple, E3.isi_tuple_none, E3.isi_tuple_bool, E3.isi_tuple_int, E3.isi_tuple_str, E3.isi_tuple_list, E3.isi_tuple_tuple, E3.isN_none, E3.ntN_none, E3.isN_bool, E3.ntN_bool, E3.isN_int, E3.ntN_int, E3.isN_str, E3.ntN_str, E3.isN_list, E3.ntN_list, E3.isN_tuple, E3.ntN_tuple, E3.len_list, E3.len_tup, E3.seq_list, E3.seq_tup, E3.tup_list, E3.tup_tup, E3.lst_list, E3.lst_tup, xM, xV, xB, xTB, x2, xAnd, xNil, xCons, xTup, xLst, xCall, xSl, xPotd, ownXd, potKd, ePotE, dropKV, fnPd, startPd, endPd, slL, eSlL, xPot, ownX, potK, XR.bind_ok, XR.bind_exc, XR.bind_stuck, XR.of_ok, XR.of_exc, XR.of_stuck, thenX_ok, thenX_exc, thenX_stuck, qSet, qRet, qIf, qAsg, qForR, qFor, H70.fR_i, H70.fR_b, H70.fR_ii, H70.fR_c, fnP, startP, endP, fnL, startL, endL, xPotL, xLast, fnN, endN, E3.ix_lst0, Int.cast_ofNat_Int])
local macro_rules | `(tactic| walk_at "evs") => `(tactic| try simp (disch := first | decide | decide +kernel | omega) only [fnD, xOr, xNot, startF, endF, sSeq, sAsg, sSet, sSetV, sAsgV, sIf, sRet, sNew, sNewV, sMut, sMutV, sFor, sForR, sFreeze, sNil, sExpr, optK, thenR_ok, thenR_exc, thenR_stuck,
  view, mask, E3.eVar_zero, E3.eVar_succ, eC, e1, e2, eCall, eTup, eLst, eSl, oNone, oSome, eAnd, eOr, eIf, E3.tAnd, E3.tOr, E3.tNot, E3.tB, asB, notD, aNil, aCons, Res.bind_ok, Res.bind_exc, Res.bind_stuck,
  gT, gsCons, gsNil, gN, tupD, lstD, Slot.dat, Slot.shd, List.length_cons, List.length_nil, List.map_cons, List.map_nil, List.replicate, List.append_nil, List.cons_append, List.nil_append, Option.map_some, Option.map_none, Option.bind_some, Option.bind_none,
  List.getElem?_cons_zero, List.getElem?_cons_succ, List.set_cons_zero, List.set_cons_succ, Nat.reduceAdd, Nat.reduceSub, Nat.reduceEqDiff, if_true, if_false, ite_true, ite_false, reduceIte, decide_true, decide_false, reduceCtorEq, Bool.not_true, Bool.not_false, Bool.false_eq_true, Bool.true_eq_false, Bool.or_true, Bool.true_or, Bool.false_or, Bool.or_false, Bool.and_true, Bool.and_false, Bool.true_and, Bool.false_and, addI, subI, ltI, leI, gtI, geI, eqI, neI, E3.negI, ix_cell0, ix_cell1, E3.le0, E3.le1, E3.le2, E3.le3, E3.le4, E3.le5, E3.le6, beq_self_eq_true, Int.reduceBEq, E3.divmodI, E3.modI, E3.fdivI, E3.powL, E3.mulLL, E3.isi_bool_none, E3.isi_bool_bool, E3.isi_bool_int, E3.isi_bool_str, E3.isi_bool_list, E3.isi_bool_tuple, E3.isi_int_none, E3.isi_int_bool, E3.isi_int_int, E3.isi_int_str, E3.isi_int_list, E3.isi_int_tuple, E3.isi_str_none, E3.isi_str_bool, E3.isi_str_int, E3.isi_str_str, E3.isi_str_list, E3.isi_str_tuple, E3.isi_list_none, E3.isi_list_bool, E3.isi_list_int, E3.isi_list_str, E3.isi_list_list, E3.isi_list_tuple, E3.isi_tuple_none, E3.isi_tuple_bool, E3.isi_tuple_int, E3.isi_tuple_str, E3.isi_tuple_list, E3.isi_tuple_tuple, E3.isN_none, E3.ntN_none, E3.isN_bool, E3.ntN_bool, E3.isN_int, E3.ntN_int, E3.isN_str, E3.ntN_str, E3.isN_list, E3.ntN_list, E3.isN_tuple, E3.ntN_tuple, E3.len_list, E3.len_tup, E3.seq_list, E3.seq_tup, E3.tup_list, E3.tup_tup, E3.lst_list, E3.lst_tup, xM, xV, xB, xTB, x2, xAnd, xNil, xCons, xTup, xLst, xCall, xSl, xPotd, ownXd, potKd, ePotE, dropKV, fnPd, startPd, endPd, slL, eSlL, xPot, ownX, potK, XR.bind_ok, XR.bind_exc, XR.bind_stuck, XR.of_ok, XR.of_exc, XR.of_stuck, thenX_ok, thenX_exc, thenX_stuck, qSet, qRet, qIf, qAsg, qForR, qFor, H70.fR_i, H70.fR_b, H70.fR_ii, H70.fR_c, fnP, startP, endP, fnL, startL, endL, xPotL, xLast, fnN, endN, E3.ix_lst0, Int.cast_ofNat_Int, *])
open H70
noncomputable section
theorem srtN_gen {P : Se → Prop} {F : List Se} (g : Gen P F) : Gen P (srtN F) := ⟨fun a h => g.rs a ((srtN_perm F).mem_iff.mp h), fun a h => g.ok a ((srtN_perm F).mem_iff.mp h), fun a h p => by
  obtain ⟨b, b1, b2⟩ := g.has a h p
  exact ⟨b, (srtN_perm F).mem_iff.mpr b1, b2⟩⟩
theorem lookS_gen {P : Se → Prop} {F M : List Se} (g : Gen P F) (nd : M.Nodup) (hM : ∀ a, a ∈ M ↔ MinP P a) (h60 : M.length ≤ 60) (h400 : ∀ a ∈ M, a.length ≤ 400) : lookS F = some (srtS M) := by
  have g2 := srtN_gen g
  obtain ⟨G, e, n, m⟩ := look_some (srtN_pw F) (fun a h => (hM a).mpr ((gen_min g2 a).mp h)) h60 h400
  unfold lookS
  rw [e]
  show some (srtS G) = _
  rw [srtS_same n nd fun a => by rw [m a, gen_min g2 a, hM a]]
theorem lookS_over {P : Se → Prop} {F M : List Se} (g : Gen P F) (nd : M.Nodup) (hM : ∀ a ∈ M, MinP P a) (h60 : 60 < M.length) : lookS F = none := by
  unfold lookS
  rw [look_none (srtN_pw F) nd (fun a h => (gen_min (srtN_gen g) a).mpr (hM a h)) h60]
  rfl
theorem lookS_bd {F G : List Se} (h : lookS F = some G) : G.length ≤ 60 ∧ (∀ a ∈ G, a.length ≤ 400) ∧ G.Nodup ∧ ∀ a ∈ G, a ∈ F := by
  unfold lookS at h
  cases z : lookF [] (srtN F) with
  | none => rw [z] at h; cases h
  | some G0 =>
    rw [z] at h
    injection h with h
    obtain ⟨j1, _⟩ := lookF_inv (F := srtN F) (srtN F) [] [] rfl (srtN_pw F) List.nodup_nil (fun a => ⟨fun h => (by cases h), fun h => (by cases h.1)⟩) (fun a h => (by cases h)) (Nat.zero_le _)
    obtain ⟨k1, k2, k3, k4⟩ := j1 G0 z
    rw [← h]
    exact ⟨by rw [(srtS_perm G0).length_eq]; exact k3, fun a ha => k4 a (mem_srtS.mp ha), (srtS_perm G0).nodup_iff.mpr k1, fun a ha => (srtN_perm F).mem_iff.mp ((k2 a).mp (mem_srtS.mp ha)).1⟩
def joinS (ones others : List Se) : List Se := ones.flatMap fun a => others.map fun b => srt (a ++ b)
def I_joined_1 : DS → Res (List D) := (fun σ => ((eVar 0) σ).bind seqOf)
def LJ : DS → Res D := (eLc (fun σ => ((eVar 1) σ).bind seqOf) (gN 4) [4] tYesD (eCall H3.D_rising (aCons (e2 addD (eVar 3) (eVar 4)) aNil)))
def B_joined_1 : SF := (sMut 2 extendM (aCons LJ aNil))
def D_joined : List D → Res D := fnD 5 2 (sSeq (sNew 2 (eLst aNil))
  (sSeq (sFor I_joined_1 (gN 3)
  B_joined_1)
  (sFreeze 2 (sRet (eVar 2)))))
theorem risingT_ok (ps : List Pt) (hl : ps.length ≤ 3999) : H3.D_rising [.tuple (ps.map cellD)] = .ok (.tuple ((srt ps).map cellD)) := by
  have h := sortSetB_srt ps hl
  unfold H3.D_rising
  walk_at "ev"
  rw [show BS.sortSetB (.tuple (ps.map cellD)) = _ from h]
  walk_at "ev"
theorem lj_el (Ri : List D → Res D) (x0 x1 x2 : Option D) (a b : List D) (r : D) (hl : a.length + b.length ≤ sizeLine) (h : Ri [.tuple (a ++ b)] = .ok r) : (eCall Ri (aCons (e2 addD (eVar 3) (eVar 4)) aNil)) [x0, x1, x2, some (.tuple a), some (.tuple b)] = .ok r := by
  have ad : addD (.tuple a) (.tuple b) = .ok (.tuple (a ++ b)) := by
    show (if a.length + b.length ≤ sizeLine then Res.ok (PyData.tuple (a ++ b)) else .stuck) = _
    rw [if_pos hl]
  walk_at "ev"
  rw [ad]; walk_at "ev"
  rw [h]
theorem lj_ok (x0 x2 x4 : Option D) (others : List Se) (one : Se) (ho : others.length ≤ 10000) (h1 : one.length ≤ 1000) (h2 : ∀ b ∈ others, b.length ≤ 1000) : LJ [x0, some (.list (others.map tupC)), x2, some (tupC one), x4] = .ok (.list ((others.map fun b => srt (one ++ b)).map tupC)) := by
  rw [List.map_map]
  refine H80.lcG (e := tupC) (q := tupC ∘ fun b => srt (one ++ b)) others rfl ho fun b hb => ?_
  have := h2 b hb
  have r := risingT_ok (one ++ b) (by rw [List.length_append]; omega)
  rw [List.map_append] at r
  exact lj_el H3.D_rising _ _ _ (one.map cellD) (b.map cellD) _ (by rw [List.length_map, List.length_map, sizeLine_eq]; omega) r
abbrev sJ (x0 x1 : D) (acc : List Se) (x3 x4 : Option Slot) : SS := [some (.sh x0), some (.sh x1), some (.ow (.list (acc.map tupC))), x3, x4]
theorem jn_step (L : DS → Res D) (x0 x1 : D) (ad nd : List D) (od : D) (x4 : Option Slot) (hl : ad.length + nd.length ≤ sizeLine) (h : ∀ a2 a4 : Option D, L [some x0, some x1, a2, some od, a4] = .ok (.list nd)) : (sMut 2 extendM (aCons L aNil)) [some (.sh x0), some (.sh x1), some (.ow (.list ad)), some (.sh od), x4] = .ok .nx [some (.sh x0), some (.sh x1), some (.ow (.list (ad ++ nd))), some (.sh od), x4] := by
  have ex : extendM ad [.list nd] = some (.none, ad ++ nd) := by
    show (if ad.length + nd.length ≤ sizeLine then some (PyData.none, ad ++ nd) else none) = _
    rw [if_pos hl]
  simp only [sMut, ownL, List.getElem?_cons_zero, List.getElem?_cons_succ]
  walk_at "ev"
  rw [h]; walk_at "ev"
  rw [ex]
  try simp only [mutK, List.getElem?_cons_zero, List.getElem?_cons_succ]
  try walk_at "ev"
  try rfl
theorem jn_turns (x0 : D) (others : List Se) (ho : others.length ≤ 10000) (h2 : ∀ b ∈ others, b.length ≤ 1000) : ∀ (ones acc : List Se) (x3 x4 : Option Slot), (∀ a ∈ ones, a.length ≤ 1000) → acc.length + ones.length * others.length ≤ 1000000 → ∃ y3 y4, forS (gN 3) B_joined_1 (ones.map tupC) (sJ x0 (.list (others.map tupC)) acc x3 x4) = .ok .nx (sJ x0 (.list (others.map tupC)) (acc ++ joinS ones others) y3 y4)
  | [], acc, x3, x4, _, _ => ⟨x3, x4, by rw [show joinS [] others = [] from rfl, List.append_nil]; rfl⟩
  | a :: ones, acc, x3, x4, h1, hl => by
    rw [List.length_cons, Nat.succ_mul] at hl
    have b := jn_step LJ x0 (.list (others.map tupC)) (acc.map tupC) ((others.map fun b => srt (a ++ b)).map tupC) (tupC a) x4 (by rw [List.length_map, List.length_map, List.length_map, sizeLine_eq]; omega) fun a2 a4 => lj_ok _ a2 a4 others a ho (h1 a List.mem_cons_self) h2
    rw [← List.map_append] at b
    obtain ⟨y3, y4, e⟩ := jn_turns x0 others ho h2 ones (acc ++ others.map fun b => srt (a ++ b)) (some (.sh (tupC a))) x4 (fun c h => h1 c (List.mem_cons_of_mem _ h)) (by rw [List.length_append, List.length_map]; omega)
    refine ⟨y3, y4, ?_⟩
    rw [List.append_assoc] at e
    rw [List.map_cons]
    exact (forS_cons (p := gN 3) (σ1 := sJ x0 (.list (others.map tupC)) acc (some (.sh (tupC a))) x4) rfl b).trans e
theorem jn_fin (FF : SF) (a b : D) (l : List D) (y3 y4 : Option Slot) (f : FF [some (.sh a), some (.sh b), some (.ow (.list [])), none, none] = .ok .nx [some (.sh a), some (.sh b), some (.ow (.list l)), y3, y4]) : fnD 5 2 (sSeq (sNew 2 (eLst aNil)) (sSeq FF (sFreeze 2 (sRet (eVar 2))))) [a, b] = .ok (.list l) := by
  walk_at "ev"
  rw [f]; walk_at "ev"
  try rfl
theorem joined_ok (ones others : List Se) (ho : others.length ≤ 10000) (h1 : ∀ a ∈ ones, a.length ≤ 1000) (h2 : ∀ b ∈ others, b.length ≤ 1000) (hl : ones.length * others.length ≤ 1000000) : D_joined [.list (ones.map tupC), .list (others.map tupC)] = .ok (.list ((joinS ones others).map tupC)) := by
  obtain ⟨y3, y4, e⟩ := jn_turns (.list (ones.map tupC)) others ho h2 ones [] none none h1 (by show 0 + _ ≤ _; omega)
  rw [List.nil_append] at e
  refine jn_fin _ _ _ _ y3 y4 ?_
  show sFor I_joined_1 (gN 3) B_joined_1 (sJ (.list (ones.map tupC)) (.list (others.map tupC)) [] none none) = _
  unfold sFor
  rw [show I_joined_1 (mask (sJ (.list (ones.map tupC)) (.list (others.map tupC)) [] none none)) = .ok (ones.map tupC) from rfl]
  exact e
theorem mem_join {ones others : List Se} {c : Se} : c ∈ joinS ones others ↔ ∃ a ∈ ones, ∃ b ∈ others, c = srt (a ++ b) := by
  unfold joinS
  rw [List.mem_flatMap]
  constructor
  · rintro ⟨a, ha, h⟩
    obtain ⟨b, hb, e⟩ := List.mem_map.mp h
    exact ⟨a, ha, b, hb, e.symm⟩
  · rintro ⟨a, ha, b, hb, e⟩
    exact ⟨a, ha, List.mem_map.mpr ⟨b, hb, e.symm⟩⟩
theorem join_len (ones others : List Se) : (joinS ones others).length = ones.length * others.length := by
  unfold joinS
  induction ones with
  | nil => simp
  | cons a t ih => rw [List.flatMap_cons, List.length_append, List.length_map, ih, List.length_cons, Nat.succ_mul]; omega
def hits (sets : List Se) (a : Se) : Prop := ∀ s ∈ sets, ∃ x ∈ a, x ∈ s
theorem cross_step {done found : List Se} {one : Se} (hf : ∀ a, a ∈ found ↔ MinP (hits done) a) : Gen (hits (done ++ [one])) (joinS found (one.map fun s => [s])) := by
  refine ⟨fun a h => ?_, fun a h => ?_, fun a ra ha => ?_⟩
  · obtain ⟨b, _, c, _, rfl⟩ := mem_join.mp h
    exact pw_srt _
  · obtain ⟨b, hb, c, hc, rfl⟩ := mem_join.mp h
    obtain ⟨s, hs, rfl⟩ := List.mem_map.mp hc
    intro t ht
    rcases List.mem_append.mp ht with h | h
    · obtain ⟨x, x1, x2⟩ := ((hf b).mp hb).2.1 t h
      exact ⟨x, mem_srt.mpr (List.mem_append_left _ x1), x2⟩
    · rw [List.mem_singleton.mp h]
      exact ⟨s, mem_srt.mpr (List.mem_append_right _ List.mem_cons_self), hs⟩
  · obtain ⟨m, m1, m2⟩ := min_ex (P := hits done) a.length a (Nat.le_refl _) ra fun t ht => ha t (List.mem_append_left _ ht)
    obtain ⟨s, s1, s2⟩ := ha one (List.mem_append_right _ List.mem_cons_self)
    refine ⟨srt (m ++ [s]), mem_join.mpr ⟨m, (hf m).mpr m1, [s], List.mem_map_of_mem (f := fun s => [s]) s2, rfl⟩, fun x hx => ?_⟩
    rcases List.mem_append.mp (mem_srt.mp hx) with h | h
    · exact m2 x h
    · rw [List.mem_singleton.mp h]; exact s1
def crossF : List Se → List Se → Option (List Se)
  | found, [] => some found
  | found, one :: sets => (lookS (joinS found (one.map fun s => [s]))).bind fun G => crossF G sets
def I_crossed_1 : DS → Res (List D) := (fun σ => ((eVar 0) σ).bind seqOf)
def LX : DS → Res D := (eLc (fun σ => ((eVar 2) σ).bind seqOf) (gN 3) [3] tYesD (eTup (aCons (eVar 3) aNil)))
def B_crossed_1 (HA : List D → Res D) : SF := (sSet 1 (eCall (D_looked HA) (aCons (eCall D_joined (aCons (eVar 1) (aCons LX aNil))) aNil)))
def D_crossed (HA : List D → Res D) : List D → Res D := fnD 4 1 (sSeq (sSet 1 (eLst (aCons (eTup aNil) aNil)))
  (sSeq (sFor I_crossed_1 (gN 2)
  (B_crossed_1 HA))
  (sRet (eVar 1))))
theorem lx_ok (x0 x1 x3 : Option D) (one : Se) (hl : one.length ≤ 10000) : LX [x0, x1, some (tupC one), x3] = .ok (.list ((one.map fun s => [s]).map tupC)) := by
  rw [List.map_map]
  exact H80.lcG (e := cellD) (q := tupC ∘ fun s => [s]) one rfl hl fun s _ => rfl
abbrev sX (x0 : D) (found : List Se) (x2 x3 : Option Slot) : SS := [some (.sh x0), some (.sh (.list (found.map tupC))), x2, x3]
theorem cx_ok (Lk Jn : List D → Res D) (L : DS → Res D) (x0 fd od jd sd r : D) (x3 : Option Slot) (hL : ∀ a3 : Option D, L [some x0, some fd, some od, a3] = .ok sd) (hj : Jn [fd, sd] = .ok jd) (hk : Lk [jd] = .ok r) : (sSet 1 (eCall Lk (aCons (eCall Jn (aCons (eVar 1) (aCons L aNil))) aNil))) [some (.sh x0), some (.sh fd), some (.sh od), x3] = .ok .nx [some (.sh x0), some (.sh r), some (.sh od), x3] := by
  walk_at "ev"
  rw [hL]; walk_at "ev"
  rw [hj]; walk_at "ev"
  rw [hk]; walk_at "ev"
theorem cx_exc (Lk Jn : List D → Res D) (L : DS → Res D) (x0 fd od jd sd : D) (x : Exn) (x3 : Option Slot) (hL : ∀ a3 : Option D, L [some x0, some fd, some od, a3] = .ok sd) (hj : Jn [fd, sd] = .ok jd) (hk : Lk [jd] = .exc x) : (sSet 1 (eCall Lk (aCons (eCall Jn (aCons (eVar 1) (aCons L aNil))) aNil))) [some (.sh x0), some (.sh fd), some (.sh od), x3] = .exc x [some (.sh x0), some (.sh fd), some (.sh od), x3] := by
  walk_at "ev"
  rw [hL]; walk_at "ev"
  rw [hj]; walk_at "ev"
  rw [hk]; walk_at "ev"
theorem cx_turns (HA : List D → Res D) (hH : HasAny HA) (x0 : D) : ∀ (sets found : List Se) (x2 x3 : Option Slot), (∀ s ∈ sets, s.length ≤ 100) → found.length ≤ 60 → (∀ a ∈ found, a.length ≤ 400) →
    (∀ G, crossF found sets = some G → ∃ y2 y3, forS (gN 2) (B_crossed_1 HA) (sets.map tupC) (sX x0 found x2 x3) = .ok .nx (sX x0 G y2 y3)) ∧ (crossF found sets = none → ∃ σ, forS (gN 2) (B_crossed_1 HA) (sets.map tupC) (sX x0 found x2 x3) = .exc tmX σ)
  | [], found, x2, x3, _, _, _ => ⟨fun G e => (by cases e; exact ⟨x2, x3, rfl⟩), fun e => (by cases e)⟩
  | one :: sets, found, x2, x3, hs, hl, hf => by
    have h1 := hs one List.mem_cons_self
    have L := fun a3 : Option D => lx_ok (some x0) (some (.list (found.map tupC))) a3 one (by omega)
    have m := Nat.mul_le_mul hl h1
    have J := joined_ok found (one.map fun s => [s]) (by rw [List.length_map]; omega) (fun a h => by have := hf a h; omega) (fun b h => by obtain ⟨s, _, rfl⟩ := List.mem_map.mp h; show 1 ≤ 1000; omega) (by rw [List.length_map]; omega)
    have K := looked_ok HA hH (joinS found (one.map fun s => [s])) (by rw [join_len, List.length_map]; omega) fun s h => by
      obtain ⟨a, ha, b, hb, rfl⟩ := mem_join.mp h
      obtain ⟨t, _, rfl⟩ := List.mem_map.mp hb
      have := srt_len (a ++ [t])
      rw [List.length_append, List.length_singleton] at this
      have := hf a ha
      omega
    have pt : (gN 2) (tupC one) (sX x0 found x2 x3) = some (sX x0 found (some (.sh (tupC one))) x3) := rfl
    rw [crossF, List.map_cons]
    cases z : lookS (joinS found (one.map fun s => [s])) with
    | none =>
      rw [z] at K
      have b := cx_exc (D_looked HA) D_joined LX x0 (.list (found.map tupC)) (tupC one) _ _ tmX x3 L J K
      exact ⟨fun G e => (by cases e), fun _ => ⟨_, forS_exc pt b⟩⟩
    | some G0 =>
      rw [z] at K
      have b := cx_ok (D_looked HA) D_joined LX x0 (.list (found.map tupC)) (tupC one) _ _ (.list (G0.map tupC)) x3 L J K
      obtain ⟨b1, b2, _, _⟩ := lookS_bd z
      obtain ⟨k1, k2⟩ := cx_turns HA hH x0 sets G0 (some (.sh (tupC one))) x3 (fun s h => hs s (List.mem_cons_of_mem _ h)) b1 b2
      refine ⟨fun G e => ?_, fun e => ?_⟩
      · obtain ⟨y2, y3, q⟩ := k1 G e
        exact ⟨y2, y3, (forS_cons pt b).trans q⟩
      · obtain ⟨σ, q⟩ := k2 e
        exact ⟨σ, (forS_cons pt b).trans q⟩
theorem cs_fin (FF : SF) (a d : D) (y2 y3 : Option Slot) (f : FF [some (.sh a), some (.sh (.list [.tuple []])), none, none] = .ok .nx [some (.sh a), some (.sh d), y2, y3]) : fnD 4 1 (sSeq (sSet 1 (eLst (aCons (eTup aNil) aNil))) (sSeq FF (sRet (eVar 1)))) [a] = .ok d := by
  walk_at "ev"
  rw [f]; walk_at "ev"
  try rfl
theorem cs_exc (FF : SF) (a : D) (x : Exn) (σ : SS) (f : FF [some (.sh a), some (.sh (.list [.tuple []])), none, none] = .exc x σ) : fnD 4 1 (sSeq (sSet 1 (eLst (aCons (eTup aNil) aNil))) (sSeq FF (sRet (eVar 1)))) [a] = .exc x := by
  walk_at "ev"
  rw [f]
  try rfl
theorem crossed_ok (HA : List D → Res D) (hH : HasAny HA) (sets : List Se) (hs : ∀ s ∈ sets, s.length ≤ 100) (x0 : D) (hx : seqOf x0 = .ok (sets.map tupC)) : D_crossed HA [x0] = match crossF [[]] sets with | some G => .ok (.list (G.map tupC)) | none => .exc tmX := by
  obtain ⟨k1, k2⟩ := cx_turns HA hH x0 sets [[]] none none hs (by decide) (fun a h => by rw [List.mem_singleton.mp h]; decide)
  have it : I_crossed_1 (mask (sX x0 [[]] none none)) = .ok (sets.map tupC) := by
    show ((Res.ok x0).bind seqOf) = _
    exact hx
  unfold D_crossed
  cases z : crossF [[]] sets with
  | some G =>
    obtain ⟨y2, y3, e⟩ := k1 G z
    refine cs_fin _ _ _ y2 y3 ?_
    show sFor I_crossed_1 (gN 2) (B_crossed_1 HA) (sX x0 [[]] none none) = _
    unfold sFor
    rw [it]
    exact e
  | none =>
    obtain ⟨σ, e⟩ := k2 z
    refine cs_exc _ _ _ σ ?_
    show sFor I_crossed_1 (gN 2) (B_crossed_1 HA) (sX x0 [[]] none none) = _
    unfold sFor
    rw [it]
    exact e
structure Told (P : Se → Prop) (found : List Se) : Prop where
  nd : found.Nodup
  is : ∀ a, a ∈ found ↔ MinP P a
  srt : srtS found = found
theorem srtS_idem (F : List Se) : srtS (srtS F) = srtS F := srtS_eq (srtS_perm F)
theorem told_one {P : Se → Prop} {F G : List Se} (h : Told P F) (k : Told P G) : F = G := by
  rw [← h.srt, ← k.srt]
  exact srtS_same h.nd k.nd fun a => (h.is a).trans (k.is a).symm
theorem told_nil : Told (hits []) [[]] := by
  refine ⟨by simp, fun a => ?_, by unfold srtS; exact List.mergeSort_singleton _⟩
  rw [List.mem_singleton]
  constructor
  · rintro rfl
    exact ⟨List.Pairwise.nil, fun s h => (by cases h), fun b _ _ s => by cases b with
      | nil => rfl
      | cons x t => exact absurd (s x List.mem_cons_self) (by simp)⟩
  · rintro ⟨_, _, h⟩
    exact (h [] List.Pairwise.nil (fun s h => by cases h) fun x h => by cases h).symm
end
end H48
namespace H48
open PySem PySem.Spec PyProof.Rows L2 E3 
local macro_rules | `(tactic| walk_at "ev") => `(tactic| try simp (disch := first | decide | decide +kernel | omega) only [fnD, xOr, xNot, startF, endF, sSeq, sAsg, sSet, sSetV, sAsgV, sIf, sRet, sNew, sNewV, sMut, sMutV, sFor, sForR, sFreeze, sNil, sExpr, optK, thenR_ok, thenR_exc, thenR_stuck,
  view, mask, E3.eVar_zero, E3.eVar_succ, eC, e1, e2, eCall, eTup, eLst, eSl, oNone, oSome, eAnd, eOr, eIf, E3.tAnd, E3.tOr, E3.tNot, E3.tB, asB, notD, aNil, aCons, Res.bind_ok, Res.bind_exc, Res.bind_stuck,
  gT, gsCons, gsNil, gN, tupD, lstD, Slot.dat, Slot.shd, List.length_cons, List.length_nil, List.map_cons, List.map_nil, List.replicate, List.append_nil, List.cons_append, List.nil_append, Option.map_some, Option.map_none, Option.bind_some, Option.bind_none,
  List.getElem?_cons_zero, List.getElem?_cons_succ, List.set_cons_zero, List.set_cons_succ, Nat.reduceAdd, Nat.reduceSub, Nat.reduceEqDiff, if_true, if_false, ite_true, ite_false, reduceIte, decide_true, decide_false, reduceCtorEq, Bool.not_true, Bool.not_false, Bool.false_eq_true, Bool.true_eq_false, Bool.or_true, Bool.true_or, Bool.false_or, Bool.or_false, Bool.and_true, Bool.and_false, Bool.true_and, Bool.false_and, addI, subI, ltI, leI, gtI, geI, eqI, neI, E3.negI, ix_cell0, ix_cell1, E3.le0, E3.le1, E3.le2, E3.le3, E3.le4, E3.le5, E3.le6, beq_self_eq_true, Int.reduceBEq, E3.divmodI, E3.modI, E3.fdivI, E3.powL, E3.mulLL, E3.isi_bool_none, E3.isi_bool_bool, E3.isi_bool_int, E3.isi_bool_str, E3.isi_bool_list, E3.isi_bool_tuple, E3.isi_int_none, E3.isi_int_bool, E3.isi_int_int, E3.isi_int_str, E3.isi_int_list, E3.isi_int_tuple, E3.isi_str_none, E3.isi_str_bool, E3.isi_str_int, E3.isi_str_str, E3.isi_str_list, E3.isi_str_tuple, E3.isi_list_none, E3.isi_list_bool, E3.isi_list_int, E3.isi_list_str, E3.isi_list_list, E3.isi_list_tuple, E3.isi_tuple_none, E3.isi_tuple_bool, E3.isi_tuple_int, E3.isi_tuple_str, E3.isi_tuple_list, E3.isi_tuple_tuple, E3.isN_none, E3.ntN_none, E3.isN_bool, E3.ntN_bool, E3.isN_int, E3.ntN_int, E3.isN_str, E3.ntN_str, E3.isN_list, E3.ntN_list, E3.isN_tuple, E3.ntN_tuple, E3.len_list, E3.len_tup, E3.seq_list, E3.seq_tup, E3.tup_list, E3.tup_tup, E3.lst_list, E3.lst_tup, xM, xV, xB, xTB, x2, xAnd, xNil, xCons, xTup, xLst, xCall, xSl, xPotd, ownXd, potKd, ePotE, dropKV, fnPd, startPd, endPd, slL, eSlL, xPot, ownX, potK, XR.bind_ok, XR.bind_exc, XR.bind_stuck, XR.of_ok, XR.of_exc, XR.of_stuck, thenX_ok, thenX_exc, thenX_stuck, qSet, qRet, qIf, qAsg, qForR, qFor, H70.fR_i, H70.fR_b, H70.fR_ii, H70.fR_c, fnP, startP, endP, fnL, startL, endL, xPotL, xLast, fnN, endN, E3.ix_lst0, Int.cast_ofNat_Int])
local macro_rules | `(tactic| walk_at "evs") => `(tactic| try simp (disch := first | decide | decide +kernel | omega) only [fnD, xOr, xNot, startF, endF, sSeq, sAsg, sSet, sSetV, sAsgV, sIf, sRet, sNew, sNewV, sMut, sMutV, sFor, sForR, sFreeze, sNil, sExpr, optK, thenR_ok, thenR_exc, thenR_stuck,
  view, mask, E3.eVar_zero, E3.eVar_succ, eC, e1, e2, eCall, eTup, eLst, eSl, oNone, oSome, eAnd, eOr, eIf, E3.tAnd, E3.tOr, E3.tNot, E3.tB, asB, notD, aNil, aCons, Res.bind_ok, Res.bind_exc, Res.bind_stuck,
  gT, gsCons, gsNil, gN, tupD, lstD, Slot.dat, Slot.shd, List.length_cons, List.length_nil, List.map_cons, List.map_nil, List.replicate, List.append_nil, List.cons_append, List.nil_append, Option.map_some, Option.map_none, Option.bind_some, Option.bind_none,
  List.getElem?_cons_zero, List.getElem?_cons_succ, List.set_cons_zero, List.set_cons_succ, Nat.reduceAdd, Nat.reduceSub, Nat.reduceEqDiff, if_true, if_false, ite_true, ite_false, reduceIte, decide_true, decide_false, reduceCtorEq, Bool.not_true, Bool.not_false, Bool.false_eq_true, Bool.true_eq_false, Bool.or_true, Bool.true_or, Bool.false_or, Bool.or_false, Bool.and_true, Bool.and_false, Bool.true_and, Bool.false_and, addI, subI, ltI, leI, gtI, geI, eqI, neI, E3.negI, ix_cell0, ix_cell1, E3.le0, E3.le1, E3.le2, E3.le3, E3.le4, E3.le5, E3.le6, beq_self_eq_true, Int.reduceBEq, E3.divmodI, E3.modI, E3.fdivI, E3.powL, E3.mulLL, E3.isi_bool_none, E3.isi_bool_bool, E3.isi_bool_int, E3.isi_bool_str, E3.isi_bool_list, E3.isi_bool_tuple, E3.isi_int_none, E3.isi_int_bool, E3.isi_int_int, E3.isi_int_str, E3.isi_int_list, E3.isi_int_tuple, E3.isi_str_none, E3.isi_str_bool, E3.isi_str_int, E3.isi_str_str, E3.isi_str_list, E3.isi_str_tuple, E3.isi_list_none, E3.isi_list_bool, E3.isi_list_int, E3.isi_list_str, E3.isi_list_list, E3.isi_list_tuple, E3.isi_tuple_none, E3.isi_tuple_bool, E3.isi_tuple_int, E3.isi_tuple_str, E3.isi_tuple_list, E3.isi_tuple_tuple, E3.isN_none, E3.ntN_none, E3.isN_bool, E3.ntN_bool, E3.isN_int, E3.ntN_int, E3.isN_str, E3.ntN_str, E3.isN_list, E3.ntN_list, E3.isN_tuple, E3.ntN_tuple, E3.len_list, E3.len_tup, E3.seq_list, E3.seq_tup, E3.tup_list, E3.tup_tup, E3.lst_list, E3.lst_tup, xM, xV, xB, xTB, x2, xAnd, xNil, xCons, xTup, xLst, xCall, xSl, xPotd, ownXd, potKd, ePotE, dropKV, fnPd, startPd, endPd, slL, eSlL, xPot, ownX, potK, XR.bind_ok, XR.bind_exc, XR.bind_stuck, XR.of_ok, XR.of_exc, XR.of_stuck, thenX_ok, thenX_exc, thenX_stuck, qSet, qRet, qIf, qAsg, qForR, qFor, H70.fR_i, H70.fR_b, H70.fR_ii, H70.fR_c, fnP, startP, endP, fnL, startL, endL, xPotL, xLast, fnN, endN, E3.ix_lst0, Int.cast_ofNat_Int, *])
open H70
noncomputable section
def C_law_deal_1 : SF := (sRet (e2 subD (eVar 0) (e2 powD (eC (.int 10)) (eC (.int 18)))))
def I_law_deal_1 : DS → Res (List D) := (fun σ => ((aCons (eVar 1) aNil) σ).bind rng1)
def B_law_deal_1 : SF := (sSeq (sSet 3 (e2 modD (e2 addD (e2 addD (e2 mulD (eVar 3) (eC (.int 48271))) (eVar 4)) (eC (.int 1))) (eC (.int 2147483647))))
  (sSeq (sSet 5 (e2 modD (e2 mulD (eVar 3) (eVar 3)) (eC (.int 2147483629))))
  (sSet 2 (e2 addD (e2 mulD (eVar 2) (eC (.int 999983))) (e2 modD (e2 addD (e2 fdivD (eVar 5) (eC (.int 1021))) (eVar 5)) (eC (.int 999983)))))))
def D_law_deal : List D → Res D := fnD 6 2 (sSeq (sIf (tB (e2 geD (eVar 0) (e2 powD (eC (.int 10)) (eC (.int 18))))) C_law_deal_1 sNil)
  (sSeq (sSet 2 (eC (.int 0)))
  (sSeq (sSet 3 (e2 modD (e2 mulD (e2 addD (e2 modD (eVar 0) (eC (.int 2147483647))) (eC (.int 977))) (eC (.int 69621))) (eC (.int 2147483647))))
  (sSeq (sFor I_law_deal_1 (gN 4)
  B_law_deal_1)
  (sRet (eVar 2))))))
theorem deal_turn (c number one many : Int) (k b : Nat) (x5 : Option Slot) (hk : k < 1000) (hg : 0 ≤ number ∧ number < 2 ^ b) (ho : 0 ≤ one ∧ one < 8589934592) (hb : b < 900000) : ∃ number' one' two' : Int, (0 ≤ number' ∧ number' < 2 ^ (b + 20)) ∧ (0 ≤ one' ∧ one' < 8589934592) ∧
    B_law_deal_1 [some (.sh (.int c)), some (.sh (.int many)), some (.sh (.int number)), some (.sh (.int one)), some (.sh (.int (k : Nat))), x5] = .ok .nx [some (.sh (.int c)), some (.sh (.int many)), some (.sh (.int number')), some (.sh (.int one')), some (.sh (.int (k : Nat))), some (.sh (.int two'))] := by
  have hkI : (0 : Int) ≤ (k : Nat) ∧ ((k : Nat) : Int) < 1000 := by omega
  generalize ((k : Nat) : Int) = j at hkI ⊢
  have m1 : mulD (.int one) (.int 48271) = .ok (.int (one * 48271)) := mulB 40 20 (by omega) (by omega) (by decide)
  have r0 := Int.emod_nonneg (one * 48271 + j + 1) (show (2147483647 : Int) ≠ 0 by decide)
  have r1 := Int.emod_lt_of_pos (one * 48271 + j + 1) (show (0 : Int) < 2147483647 by decide)
  generalize h1 : (one * 48271 + j + 1) % 2147483647 = y at r0 r1
  have m4 : mulD (.int y) (.int y) = .ok (.int (y * y)) := mulB 40 40 (by omega) (by omega) (by decide)
  have s0 := Int.emod_nonneg (y * y) (show (2147483629 : Int) ≠ 0 by decide)
  generalize h2 : y * y % 2147483629 = z at s0
  have hp : (0 : Int) < 2 ^ b := Int.pow_pos (by decide)
  have m5 : mulD (.int number) (.int 999983) = .ok (.int (number * 999983)) := mulB b 20 (by omega) (by omega) (by omega)
  have t0 := Int.emod_nonneg (z / 1021 + z) (show (999983 : Int) ≠ 0 by decide)
  have t1 := Int.emod_lt_of_pos (z / 1021 + z) (show (0 : Int) < 999983 by decide)
  have e2 : (2 : Int) ^ (b + 20) = 2 ^ b * 1048576 := by rw [Int.pow_add]; rfl
  refine ⟨number * 999983 + (z / 1021 + z) % 999983, y, z, ⟨by omega, by omega⟩, ⟨r0, by omega⟩, ?_⟩
  unfold B_law_deal_1
  walk_at "ev"
  rw [m1]
  walk_at "ev"
  try rw [h1]
  try walk_at "ev"
  rw [m4]
  walk_at "ev"
  try rw [h2]
  try walk_at "ev"
  rw [m5]
  walk_at "ev"
theorem dl_lt (FF CC : SF) (c m : Int) (v : D) (σ : SS) (lt : c < 1000000000000000000) (s1 : Int) (h1 : mulD (.int (c % 2147483647 + 977)) (.int 69621) = .ok (.int s1)) (f : FF [some (.sh (.int c)), some (.sh (.int m)), some (.sh (.int 0)), some (.sh (.int (s1 % 2147483647))), none, none] = .ok .nx σ) (hv : (view σ)[2]? = some (some v)) : fnD 6 2 (sSeq (sIf (tB (e2 geD (eVar 0) (e2 powD (eC (.int 10)) (eC (.int 18))))) CC sNil)
  (sSeq (sSet 2 (eC (.int 0)))
  (sSeq (sSet 3 (e2 modD (e2 mulD (e2 addD (e2 modD (eVar 0) (eC (.int 2147483647))) (eC (.int 977))) (eC (.int 69621))) (eC (.int 2147483647))))
  (sSeq FF (sRet (eVar 2)))))) [.int c, .int m] = .ok v := by
  have e1 : decide ((10 : Int) ^ Int.toNat 18 ≤ c) = false := decide_eq_false (by show ¬ (10 : Int) ^ 18 ≤ c; omega)
  have md : modD (.int c) (.int 2147483647) = .ok (.int (c % 2147483647)) := modI (by decide)
  have md2 : modD (.int s1) (.int 2147483647) = .ok (.int (s1 % 2147483647)) := modI (by decide)
  walk_at "ev"
  rw [e1]; walk_at "ev"
  try (rw [md]; walk_at "ev")
  rw [h1]; walk_at "ev"
  try (rw [md2]; walk_at "ev")
  rw [f]
  show endF (thenR (eVar 2 (view σ)) σ fun d => SR.ok (Out.rt d) σ) = _
  have : eVar 2 (view σ) = .ok v := by unfold eVar; rw [hv]
  rw [this]
  rfl
theorem deal_ok (c : Int) (m : Int) (hm : 0 ≤ m ∧ m ≤ 500) : ∃ n : Int, 0 ≤ n ∧ D_law_deal [.int c, .int m] = .ok (.int n) := by
  by_cases hc : (1000000000000000000 : Int) ≤ c
  · refine ⟨c - 10 ^ 18, by omega, ?_⟩
    unfold D_law_deal C_law_deal_1
    walk_at "ev"
    have e : decide ((10 : Int) ^ Int.toNat 18 ≤ c) = true := decide_eq_true (by show (10 : Int) ^ 18 ≤ c; omega)
    rw [e]
    walk_at "ev"
    rfl
  · have c0 := Int.emod_nonneg c (show (2147483647 : Int) ≠ 0 by decide)
    have c1 := Int.emod_lt_of_pos c (show (0 : Int) < 2147483647 by decide)
    have q0 := Int.emod_nonneg ((c % 2147483647 + 977) * 69621) (show (2147483647 : Int) ≠ 0 by decide)
    have q1 := Int.emod_lt_of_pos ((c % 2147483647 + 977) * 69621) (show (0 : Int) < 2147483647 by decide)
    obtain ⟨σ', e, number, one, x4, x5, hg, ho, rfl⟩ := E3.forS_pre (p := gN 4) (body := B_law_deal_1) (g := fun k : Nat => PyData.int (k : Nat))
      (Inv := fun pre σ => ∃ (number one : Int) (x4 x5 : Option Slot), (0 ≤ number ∧ number < 2 ^ (20 * pre.length)) ∧ (0 ≤ one ∧ one < 8589934592) ∧
        σ = [some (.sh (.int c)), some (.sh (.int m)), some (.sh (.int number)), some (.sh (.int one)), x4, x5]) (List.range m.toNat)
      [some (.sh (.int c)), some (.sh (.int m)), some (.sh (.int 0)), some (.sh (.int ((c % 2147483647 + 977) * 69621 % 2147483647))), none, none]
      ⟨0, _, none, none, ⟨by omega, by decide⟩, ⟨by omega, by omega⟩, rfl⟩ (by
      rintro pre k post σ he ⟨number, one, x4, x5, hg, ho, rfl⟩
      have hk : k < m.toNat := List.mem_range.mp (by rw [he]; simp)
      have hl : pre.length < m.toNat := by
        have := congrArg List.length he
        rw [List.length_range, List.length_append, List.length_cons] at this
        omega
      obtain ⟨number', one', two', h1, h2, h3⟩ := deal_turn c number one m k (20 * pre.length) x5 (by omega) hg ho (by omega)
      refine ⟨_, _, rfl, .inl h3, number', one', some (.sh (.int (k : Nat))), some (.sh (.int two')), ⟨h1.1, ?_⟩, h2, rfl⟩
      rw [List.length_append, List.length_singleton, Nat.mul_add, Nat.mul_one]
      exact h1.2)
    refine ⟨number, hg.1, ?_⟩
    have it : I_law_deal_1 (mask [some (.sh (.int c)), some (.sh (.int m)), some (.sh (.int 0)), some (.sh (.int ((c % 2147483647 + 977) * 69621 % 2147483647))), none, none]) = .ok ((List.range m.toNat).map fun k : Nat => PyData.int (k : Nat)) := E3.rng1_nat (m := m) hm.1 (by omega)
    refine dl_lt _ _ c m _ [some (.sh (.int c)), some (.sh (.int m)), some (.sh (.int number)), some (.sh (.int one)), x4, x5] (by omega) ((c % 2147483647 + 977) * 69621) (mulB 40 20 (by omega) (by omega) (by decide)) ?_ rfl
    unfold sFor
    rw [it]
    exact e
theorem and_one (a : Nat) : andD (.int (a : Nat)) (.int 1) = .ok (.int ((a % 2 : Nat) : Int)) := by
  show Res.ok (PyData.int (Builtin.bitAnd (a : Int) 1)) = _
  congr 2
  unfold Builtin.bitAnd
  have d1 : decide ((0 : Int) ≤ (a : Int)) = true := decide_eq_true (by omega)
  rw [d1, show decide ((0 : Int) ≤ 1) = true from rfl]
  show (((a : Int).toNat &&& (1 : Int).toNat : Nat) : Int) = _
  rw [Int.toNat_natCast, show (1 : Int).toNat = 1 from rfl, Nat.and_one_is_mod]
theorem shr_nat (a k : Nat) : shrD (.int (a : Nat)) (.int (k : Nat)) = .ok (.int ((a / 2 ^ k : Nat) : Int)) := by
  show (if decide (0 ≤ (k : Int)) = true then Res.ok (PyData.int ((a : Int) / 2 ^ (k : Int).toNat)) else .stuck) = _
  rw [if_pos (decide_eq_true (by omega)), Int.toNat_natCast]
  have : ((a : Int) / 2 ^ k) = ((a / 2 ^ k : Nat) : Int) := by push_cast; rfl
  rw [this]
theorem shl_one (k : Nat) (hk : k ≤ 100000) : shlD (.int 1) (.int (k : Nat)) = .ok (.int ((2 ^ k : Nat) : Int)) := by
  show (if decide (0 ≤ (k : Int) ∧ (k : Int) ≤ 1000000 ∧ (1 : Int).natAbs < 2 ^ 64) = true then Res.ok (PyData.int (1 * 2 ^ (k : Int).toNat)) else .stuck) = _
  rw [if_pos (decide_eq_true ⟨by omega, by omega, by decide⟩), Int.toNat_natCast]
  have : (1 : Int) * 2 ^ k = ((2 ^ k : Nat) : Int) := by push_cast; rw [Int.one_mul]
  rw [this]
def bitB (b k : Nat) : Bool := decide (b / 2 ^ k % 2 = 1)
def subB : Se → Nat → Se
  | [], _ => []
  | x :: w, b => if b % 2 = 1 then x :: subB w (b / 2) else subB w (b / 2)
theorem subB_sub : ∀ (w : Se) (b : Nat), Sub (subB w b) w
  | [], _ => fun x h => by cases h
  | y :: w, b => fun x h => by
    unfold subB at h
    split at h
    · rcases List.mem_cons.mp h with e | h
      · rw [e]; exact List.mem_cons_self
      · exact List.mem_cons_of_mem _ (subB_sub w _ x h)
    · exact List.mem_cons_of_mem _ (subB_sub w _ x h)
theorem subB_rs : ∀ {w : Se} (b : Nat), Rs w → Rs (subB w b)
  | [], _, _ => List.Pairwise.nil
  | y :: w, b, h => by
    obtain ⟨h1, h2⟩ := List.pairwise_cons.mp h
    unfold subB
    split
    · exact List.pairwise_cons.mpr ⟨fun x hx => h1 x (subB_sub w _ x hx), subB_rs _ h2⟩
    · exact subB_rs _ h2
theorem subB_inj : ∀ {w : Se} {b c : Nat}, w.Nodup → b < 2 ^ w.length → c < 2 ^ w.length → subB w b = subB w c → b = c
  | [], b, c, _, hb, hc, _ => by
    rw [List.length_nil, Nat.pow_zero] at hb hc
    omega
  | x :: w, b, c, nd, hb, hc, e => by
    obtain ⟨n1, n2⟩ := List.nodup_cons.mp nd
    rw [List.length_cons, Nat.pow_succ] at hb hc
    have nx : ∀ d, x ∉ subB w d := fun d h => n1 (subB_sub w d x h)
    unfold subB at e
    by_cases p : b % 2 = 1
    · by_cases q : c % 2 = 1
      · rw [if_pos p, if_pos q] at e
        injection e with _ e
        have := subB_inj n2 (by omega) (by omega) e
        omega
      · rw [if_pos p, if_neg q] at e
        exact absurd (by rw [← e]; exact List.mem_cons_self) (nx (c / 2))
    · by_cases q : c % 2 = 1
      · rw [if_neg p, if_pos q] at e
        exact absurd (by rw [e]; exact List.mem_cons_self) (nx (b / 2))
      · rw [if_neg p, if_neg q] at e
        have := subB_inj n2 (by omega) (by omega) e
        omega
theorem subB_ex : ∀ {w a : Se}, Rs w → Rs a → Sub a w → ∃ b < 2 ^ w.length, subB w b = a
  | [], a, _, _, s => by
    refine ⟨0, by decide, ?_⟩
    cases a with
    | nil => rfl
    | cons x t => exact absurd (s x List.mem_cons_self) (by simp)
  | x :: w, a, hw, ha, s => by
    obtain ⟨w1, w2⟩ := List.pairwise_cons.mp hw
    rw [List.length_cons, Nat.pow_succ]
    by_cases e : x ∈ a
    · obtain ⟨t, rfl⟩ : ∃ t, a = x :: t := by
        cases a with
        | nil => cases e
        | cons y t =>
          refine ⟨t, ?_⟩
          rcases List.mem_cons.mp e with h | h
          · rw [h]
          · have l1 := (List.pairwise_cons.mp ha).1 x h
            rcases List.mem_cons.mp (s y List.mem_cons_self) with h2 | h2
            · rw [h2]
            · have l2 := w1 y h2
              unfold E3.ltP at l1 l2
              omega
      obtain ⟨a1, a2⟩ := List.pairwise_cons.mp ha
      obtain ⟨b, hb, e2⟩ := subB_ex w2 a2 fun y hy => (List.mem_cons.mp (s y (List.mem_cons_of_mem _ hy))).resolve_left fun z => by
        have := a1 y hy
        rw [z] at this
        unfold E3.ltP at this
        omega
      refine ⟨2 * b + 1, by omega, ?_⟩
      unfold subB
      rw [if_pos (by omega), show (2 * b + 1) / 2 = b by omega, e2]
    · obtain ⟨b, hb, e2⟩ := subB_ex w2 ha fun y hy => (List.mem_cons.mp (s y hy)).resolve_left fun z => e (z ▸ hy)
      refine ⟨2 * b, by omega, ?_⟩
      unfold subB
      rw [if_neg (by omega), show (2 * b) / 2 = b by omega, e2]
theorem bit_zero (b : Nat) : bitB b 0 = decide (b % 2 = 1) := by unfold bitB; rw [Nat.pow_zero, Nat.div_one]
theorem bit_succ (b k : Nat) : bitB b (k + 1) = bitB (b / 2) k := by
  unfold bitB
  rw [Nat.pow_succ, Nat.mul_comm, ← Nat.div_div_eq_div_mul]
theorem subB_less : ∀ {w : Se} {b k : Nat} {x : Pt}, w.Nodup → w[k]? = some x → bitB b k = true → 2 ^ k ≤ b ∧ subB w (b - 2 ^ k) = (subB w b).filter fun z => decide (z ≠ x)
  | [], _, _, _, _, h, _ => by cases h
  | y :: w, b, 0, x, nd, h, hb => by
    obtain ⟨n1, n2⟩ := List.nodup_cons.mp nd
    rw [bit_zero, decide_eq_true_iff] at hb
    cases h
    have nx : ∀ z ∈ subB w (b / 2), z ≠ y := fun z hz e => n1 (e ▸ subB_sub w _ z hz)
    refine ⟨by rw [Nat.pow_zero]; omega, ?_⟩
    rw [Nat.pow_zero]
    unfold subB
    rw [if_neg (by omega), if_pos hb, show (b - 1) / 2 = b / 2 by omega, List.filter_cons_of_neg (by simp)]
    exact (List.filter_eq_self.mpr fun z hz => decide_eq_true (nx z hz)).symm
  | y :: w, b, k + 1, x, nd, h, hb => by
    obtain ⟨n1, n2⟩ := List.nodup_cons.mp nd
    rw [bit_succ] at hb
    have h' : w[k]? = some x := h
    obtain ⟨i1, i2⟩ := subB_less n2 h' hb
    have yx : y ≠ x := fun e => n1 (e ▸ List.mem_of_getElem? h')
    rw [Nat.pow_succ]
    refine ⟨by omega, ?_⟩
    unfold subB
    rw [show (b - 2 ^ k * 2) / 2 = b / 2 - 2 ^ k by omega, i2, show (b - 2 ^ k * 2) % 2 = b % 2 by omega]
    split
    · rw [List.filter_cons_of_pos (by exact decide_eq_true yx)]
    · rfl
theorem subB_mem : ∀ {w : Se} {b : Nat} {x : Pt}, x ∈ subB w b → ∃ k, w[k]? = some x ∧ bitB b k = true
  | [], _, _, h => by cases h
  | y :: w, b, x, h => by
    have go : x ∈ subB w (b / 2) → ∃ k, (y :: w)[k]? = some x ∧ bitB b k = true := fun h => by
      obtain ⟨k, k1, k2⟩ := subB_mem h
      exact ⟨k + 1, k1, by rw [bit_succ]; exact k2⟩
    unfold subB at h
    split at h
    · rename_i p
      rcases List.mem_cons.mp h with e | h
      · exact ⟨0, by rw [e]; rfl, by rw [bit_zero]; exact decide_eq_true p⟩
      · exact go h
    · exact go h
def lessB (good : Nat → Bool) (b n : Nat) : Bool := (List.range n).any fun k => bitB b k && good (b - 2 ^ k)
def dueB (w : Se) (good : Nat → Bool) : List Se := ((List.range (2 ^ w.length)).filter fun b => good b && !lessB good b w.length).map (subB w)
theorem due_nd {w : Se} (good : Nat → Bool) (h : Rs w) : (dueB w good).Nodup := by
  unfold dueB
  refine List.Pairwise.map _ (fun a b h => h) (List.Pairwise.imp_of_mem ?_ (List.nodup_range.filter _))
  intro a b ha hb ne e
  exact ne (subB_inj (rs_nd h) (List.mem_range.mp (List.mem_filter.mp ha).1) (List.mem_range.mp (List.mem_filter.mp hb).1) e)
theorem due_is {w : Se} {P : Se → Prop} {good : Nat → Bool} (h : Rs w) (hg : ∀ b < 2 ^ w.length, good b = true ↔ P (subB w b)) (mono : ∀ a b, Rs a → Rs b → Sub a b → P a → P b) (wn : ∀ a, MinP P a → Sub a w) (a : Se) : a ∈ dueB w good ↔ MinP P a := by
  unfold dueB
  have key : ∀ b < 2 ^ w.length, (good b && !lessB good b w.length) = true ↔ MinP P (subB w b) := fun b hb => by
    rw [Bool.and_eq_true, hg b hb, Bool.not_eq_true']
    constructor
    · rintro ⟨p, l⟩
      refine ⟨subB_rs b h, p, fun c rc pc s => Classical.byContradiction fun ne => ?_⟩
      obtain ⟨x, xa, xc⟩ : ∃ x ∈ subB w b, x ∉ c := Classical.byContradiction fun z => ne (rs_ext rc (subB_rs b h) fun x => ⟨s x, fun hx => Classical.byContradiction fun q => z ⟨x, hx, q⟩⟩)
      obtain ⟨k, k1, k2⟩ := subB_mem xa
      obtain ⟨i1, i2⟩ := subB_less (rs_nd h) k1 k2
      have pk : P (subB w (b - 2 ^ k)) := by
        rw [i2]
        exact mono c _ rc ((subB_rs b h).filter _) (fun y hy => List.mem_filter.mpr ⟨s y hy, decide_eq_true fun e => xc (e ▸ hy)⟩) pc
      have : lessB good b w.length = true := by
        unfold lessB
        refine List.any_eq_true.mpr ⟨k, List.mem_range.mpr (List.getElem?_eq_some_iff.mp k1).1, ?_⟩
        rw [k2, Bool.true_and]
        exact (hg _ (Nat.lt_of_le_of_lt (Nat.sub_le _ _) hb)).mpr pk
      rw [l] at this
      cases this
    · rintro ⟨_, p, m⟩
      refine ⟨p, ?_⟩
      cases z : lessB good b w.length with
      | false => rfl
      | true =>
        exfalso
        obtain ⟨k, hk, e⟩ := List.any_eq_true.mp z
        rw [Bool.and_eq_true] at e
        have k1 : w[k]? = some (w[k]'(List.mem_range.mp hk)) := List.getElem?_eq_getElem _
        obtain ⟨i1, i2⟩ := subB_less (rs_nd h) k1 e.1
        have p2 := (hg _ (Nat.lt_of_le_of_lt (Nat.sub_le _ _) hb)).mp e.2
        have s := m _ (subB_rs _ h) p2 (by rw [i2]; exact fun y hy => (List.mem_filter.mp hy).1)
        have := subB_inj (rs_nd h) (Nat.lt_of_le_of_lt (Nat.sub_le _ _) hb) hb s
        have : 0 < 2 ^ k := Nat.pow_pos (by decide)
        omega
  rw [List.mem_map]
  constructor
  · rintro ⟨b, hb, rfl⟩
    obtain ⟨b1, b2⟩ := List.mem_filter.mp hb
    exact (key b (List.mem_range.mp b1)).mp b2
  · intro ma
    obtain ⟨b, hb, e⟩ := subB_ex h ma.1 (wn a ma)
    refine ⟨b, List.mem_filter.mpr ⟨List.mem_range.mpr hb, (key b hb).mpr ?_⟩, e⟩
    rw [e]; exact ma
end
end H48
namespace H48
open PySem PySem.Spec PyProof.Rows L2 E3 
local macro_rules | `(tactic| walk_at "ev") => `(tactic| try simp (disch := first | decide | decide +kernel | omega) only [fnD, xOr, xNot, startF, endF, sSeq, sAsg, sSet, sSetV, sAsgV, sIf, sRet, sNew, sNewV, sMut, sMutV, sFor, sForR, sFreeze, sNil, sExpr, optK, thenR_ok, thenR_exc, thenR_stuck,
  view, mask, E3.eVar_zero, E3.eVar_succ, eC, e1, e2, eCall, eTup, eLst, eSl, oNone, oSome, eAnd, eOr, eIf, E3.tAnd, E3.tOr, E3.tNot, E3.tB, asB, notD, aNil, aCons, Res.bind_ok, Res.bind_exc, Res.bind_stuck,
  gT, gsCons, gsNil, gN, tupD, lstD, Slot.dat, Slot.shd, List.length_cons, List.length_nil, List.map_cons, List.map_nil, List.replicate, List.append_nil, List.cons_append, List.nil_append, Option.map_some, Option.map_none, Option.bind_some, Option.bind_none,
  List.getElem?_cons_zero, List.getElem?_cons_succ, List.set_cons_zero, List.set_cons_succ, Nat.reduceAdd, Nat.reduceSub, Nat.reduceEqDiff, if_true, if_false, ite_true, ite_false, reduceIte, decide_true, decide_false, reduceCtorEq, Bool.not_true, Bool.not_false, Bool.false_eq_true, Bool.true_eq_false, Bool.or_true, Bool.true_or, Bool.false_or, Bool.or_false, Bool.and_true, Bool.and_false, Bool.true_and, Bool.false_and, addI, subI, ltI, leI, gtI, geI, eqI, neI, E3.negI, ix_cell0, ix_cell1, E3.le0, E3.le1, E3.le2, E3.le3, E3.le4, E3.le5, E3.le6, beq_self_eq_true, Int.reduceBEq, E3.divmodI, E3.modI, E3.fdivI, E3.powL, E3.mulLL, E3.isi_bool_none, E3.isi_bool_bool, E3.isi_bool_int, E3.isi_bool_str, E3.isi_bool_list, E3.isi_bool_tuple, E3.isi_int_none, E3.isi_int_bool, E3.isi_int_int, E3.isi_int_str, E3.isi_int_list, E3.isi_int_tuple, E3.isi_str_none, E3.isi_str_bool, E3.isi_str_int, E3.isi_str_str, E3.isi_str_list, E3.isi_str_tuple, E3.isi_list_none, E3.isi_list_bool, E3.isi_list_int, E3.isi_list_str, E3.isi_list_list, E3.isi_list_tuple, E3.isi_tuple_none, E3.isi_tuple_bool, E3.isi_tuple_int, E3.isi_tuple_str, E3.isi_tuple_list, E3.isi_tuple_tuple, E3.isN_none, E3.ntN_none, E3.isN_bool, E3.ntN_bool, E3.isN_int, E3.ntN_int, E3.isN_str, E3.ntN_str, E3.isN_list, E3.ntN_list, E3.isN_tuple, E3.ntN_tuple, E3.len_list, E3.len_tup, E3.seq_list, E3.seq_tup, E3.tup_list, E3.tup_tup, E3.lst_list, E3.lst_tup, xM, xV, xB, xTB, x2, xAnd, xNil, xCons, xTup, xLst, xCall, xSl, xPotd, ownXd, potKd, ePotE, dropKV, fnPd, startPd, endPd, slL, eSlL, xPot, ownX, potK, XR.bind_ok, XR.bind_exc, XR.bind_stuck, XR.of_ok, XR.of_exc, XR.of_stuck, thenX_ok, thenX_exc, thenX_stuck, qSet, qRet, qIf, qAsg, qForR, qFor, H70.fR_i, H70.fR_b, H70.fR_ii, H70.fR_c, fnP, startP, endP, fnL, startL, endL, xPotL, xLast, fnN, endN, E3.ix_lst0, Int.cast_ofNat_Int])
local macro_rules | `(tactic| walk_at "evs") => `(tactic| try simp (disch := first | decide | decide +kernel | omega) only [fnD, xOr, xNot, startF, endF, sSeq, sAsg, sSet, sSetV, sAsgV, sIf, sRet, sNew, sNewV, sMut, sMutV, sFor, sForR, sFreeze, sNil, sExpr, optK, thenR_ok, thenR_exc, thenR_stuck,
  view, mask, E3.eVar_zero, E3.eVar_succ, eC, e1, e2, eCall, eTup, eLst, eSl, oNone, oSome, eAnd, eOr, eIf, E3.tAnd, E3.tOr, E3.tNot, E3.tB, asB, notD, aNil, aCons, Res.bind_ok, Res.bind_exc, Res.bind_stuck,
  gT, gsCons, gsNil, gN, tupD, lstD, Slot.dat, Slot.shd, List.length_cons, List.length_nil, List.map_cons, List.map_nil, List.replicate, List.append_nil, List.cons_append, List.nil_append, Option.map_some, Option.map_none, Option.bind_some, Option.bind_none,
  List.getElem?_cons_zero, List.getElem?_cons_succ, List.set_cons_zero, List.set_cons_succ, Nat.reduceAdd, Nat.reduceSub, Nat.reduceEqDiff, if_true, if_false, ite_true, ite_false, reduceIte, decide_true, decide_false, reduceCtorEq, Bool.not_true, Bool.not_false, Bool.false_eq_true, Bool.true_eq_false, Bool.or_true, Bool.true_or, Bool.false_or, Bool.or_false, Bool.and_true, Bool.and_false, Bool.true_and, Bool.false_and, addI, subI, ltI, leI, gtI, geI, eqI, neI, E3.negI, ix_cell0, ix_cell1, E3.le0, E3.le1, E3.le2, E3.le3, E3.le4, E3.le5, E3.le6, beq_self_eq_true, Int.reduceBEq, E3.divmodI, E3.modI, E3.fdivI, E3.powL, E3.mulLL, E3.isi_bool_none, E3.isi_bool_bool, E3.isi_bool_int, E3.isi_bool_str, E3.isi_bool_list, E3.isi_bool_tuple, E3.isi_int_none, E3.isi_int_bool, E3.isi_int_int, E3.isi_int_str, E3.isi_int_list, E3.isi_int_tuple, E3.isi_str_none, E3.isi_str_bool, E3.isi_str_int, E3.isi_str_str, E3.isi_str_list, E3.isi_str_tuple, E3.isi_list_none, E3.isi_list_bool, E3.isi_list_int, E3.isi_list_str, E3.isi_list_list, E3.isi_list_tuple, E3.isi_tuple_none, E3.isi_tuple_bool, E3.isi_tuple_int, E3.isi_tuple_str, E3.isi_tuple_list, E3.isi_tuple_tuple, E3.isN_none, E3.ntN_none, E3.isN_bool, E3.ntN_bool, E3.isN_int, E3.ntN_int, E3.isN_str, E3.ntN_str, E3.isN_list, E3.ntN_list, E3.isN_tuple, E3.ntN_tuple, E3.len_list, E3.len_tup, E3.seq_list, E3.seq_tup, E3.tup_list, E3.tup_tup, E3.lst_list, E3.lst_tup, xM, xV, xB, xTB, x2, xAnd, xNil, xCons, xTup, xLst, xCall, xSl, xPotd, ownXd, potKd, ePotE, dropKV, fnPd, startPd, endPd, slL, eSlL, xPot, ownX, potK, XR.bind_ok, XR.bind_exc, XR.bind_stuck, XR.of_ok, XR.of_exc, XR.of_stuck, thenX_ok, thenX_exc, thenX_stuck, qSet, qRet, qIf, qAsg, qForR, qFor, H70.fR_i, H70.fR_b, H70.fR_ii, H70.fR_c, fnP, startP, endP, fnL, startL, endL, xPotL, xLast, fnN, endN, E3.ix_lst0, Int.cast_ofNat_Int, *])
open H70
noncomputable section
def D_law_whole : List D → Res D := fnD 1 1 (sRet (eAnd (e1 (isiD "int") (eVar 0)) (e1 notD (e1 (isiD "bool") (eVar 0)))))
theorem whole_ok (i : Int) : D_law_whole [.int i] = .ok (.bool true) := rfl
def I_law_is_sets_1 : DS → Res (List D) := (fun σ => ((eVar 2) σ).bind seqOf)
def B_law_is_sets_1 : SF := (sIf (E3.tOr (E3.tNot (E3.tB (e1 (isiD "tuple") (eVar 3)))) (E3.tOr (E3.tNot (E3.tB (eCall D_law_whole (aCons (e2 ixD (eVar 3) (eC (.int 0))) aNil)))) (E3.tNot (E3.tB (eCall D_law_whole (aCons (e2 ixD (eVar 3) (eC (.int 1))) aNil)))))) (sRet (eC (.bool false))) sNil)
def I_law_is_sets_2 : DS → Res (List D) := (fun σ => ((eVar 0) σ).bind seqOf)
def B_law_is_sets_2 : SF := (sSeq (sIf (E3.tNot (E3.tB (e1 (isiD "tuple") (eVar 2)))) (sRet (eC (.bool false))) sNil)
  (sFor I_law_is_sets_1 (gN 3)
  B_law_is_sets_1))
def D_law_is_sets : List D → Res D := fnD 4 2 (sSeq (sIf (E3.tOr (E3.tNot (E3.tB (e1 (isiD "list") (eVar 0)))) (tB (e2 neD (eVar 0) (eVar 1)))) (sRet (eC (.bool false))) sNil)
  (sSeq (sFor I_law_is_sets_2 (gN 2)
  B_law_is_sets_2)
  (sRet (eC (.bool true)))))
theorem is_step (x0 x1 x2 : Option Slot) (p : Pt) : B_law_is_sets_1 [x0, x1, x2, some (.sh (cellD p))] = .ok .nx [x0, x1, x2, some (.sh (cellD p))] := by
  have w1 := whole_ok p.1
  have w2 := whole_ok p.2
  have i1 : ixD (cellD p) (.int 0) = .ok (.int p.1) := rfl
  have i2 : ixD (cellD p) (.int 1) = .ok (.int p.2) := rfl
  have t : isiD "tuple" (cellD p) = .ok (.bool true) := rfl
  unfold B_law_is_sets_1
  generalize D_law_whole = W at *
  generalize cellD p = cd at *
  walk_at "ev"
  rw [t]; walk_at "ev"
  rw [i1]; walk_at "ev"
  rw [w1]; walk_at "ev"
  rw [i2]; walk_at "ev"
  rw [w2]; walk_at "ev"
theorem is_steps (x0 x1 x2 : Option Slot) : ∀ (ps : Se) (x3 : Option Slot), ∃ y3, forS (gN 3) B_law_is_sets_1 (ps.map cellD) [x0, x1, x2, x3] = .ok .nx [x0, x1, x2, y3]
  | [], x3 => ⟨x3, rfl⟩
  | p :: ps, x3 => by
    obtain ⟨y3, e⟩ := is_steps x0 x1 x2 ps (some (.sh (cellD p)))
    exact ⟨y3, (forS_cons (p := gN 3) (σ1 := [x0, x1, x2, some (.sh (cellD p))]) rfl (is_step x0 x1 x2 p)).trans e⟩
theorem is_one (FF : SF) (x0 x1 x3 y3 : Option Slot) (a : Se) (f : FF [x0, x1, some (.sh (tupC a)), x3] = .ok .nx [x0, x1, some (.sh (tupC a)), y3]) : (sSeq (sIf (E3.tNot (E3.tB (e1 (isiD "tuple") (eVar 2)))) (sRet (eC (.bool false))) sNil) FF) [x0, x1, some (.sh (tupC a)), x3] = .ok .nx [x0, x1, some (.sh (tupC a)), y3] := by
  have t : isiD "tuple" (tupC a) = .ok (.bool true) := rfl
  generalize tupC a = td at *
  walk_at "ev"
  rw [t]; walk_at "ev"
  exact f
theorem is_sets (x0 x1 : Option Slot) : ∀ (F : List Se) (x2 x3 : Option Slot), ∃ y2 y3, forS (gN 2) B_law_is_sets_2 (F.map tupC) [x0, x1, x2, x3] = .ok .nx [x0, x1, y2, y3]
  | [], x2, x3 => ⟨x2, x3, rfl⟩
  | a :: F, x2, x3 => by
    obtain ⟨z3, e⟩ := is_steps x0 x1 (some (.sh (tupC a))) a x3
    have f : sFor I_law_is_sets_1 (gN 3) B_law_is_sets_1 [x0, x1, some (.sh (tupC a)), x3] = .ok .nx [x0, x1, some (.sh (tupC a)), z3] := by
      unfold sFor
      rw [show I_law_is_sets_1 (mask [x0, x1, some (.sh (tupC a)), x3]) = .ok (a.map cellD) from rfl]
      exact e
    obtain ⟨y2, y3, e2⟩ := is_sets x0 x1 F (some (.sh (tupC a))) z3
    exact ⟨y2, y3, (forS_cons (p := gN 2) (σ1 := [x0, x1, some (.sh (tupC a)), x3]) rfl (is_one _ x0 x1 x3 z3 a f)).trans e2⟩
theorem is_fin (FF : SF) (l : List D) (y2 y3 : Option Slot) (n : neD (.list l) (.list l) = .ok (.bool false)) (f : FF [some (.sh (.list l)), some (.sh (.list l)), none, none] = .ok .nx [some (.sh (.list l)), some (.sh (.list l)), y2, y3]) : fnD 4 2 (sSeq (sIf (E3.tOr (E3.tNot (E3.tB (e1 (isiD "list") (eVar 0)))) (tB (e2 neD (eVar 0) (eVar 1)))) (sRet (eC (.bool false))) sNil) (sSeq FF (sRet (eC (.bool true))))) [.list l, .list l] = .ok (.bool true) := by
  have i : isiD "list" (.list l) = .ok (.bool true) := rfl
  walk_at "ev"
  try (rw [i]; walk_at "ev")
  rw [n]; walk_at "ev"
  rw [f]
  try rfl
theorem is_sets_ok (F : List Se) : D_law_is_sets [.list (F.map tupC), .list (F.map tupC)] = .ok (.bool true) := by
  obtain ⟨y2, y3, e⟩ := is_sets (some (.sh (.list (F.map tupC)))) (some (.sh (.list (F.map tupC)))) F none none
  have n := ne_sets F F
  rw [decide_eq_true rfl] at n
  refine is_fin _ _ y2 y3 n ?_
  unfold sFor
  exact e
theorem rng_k {n : Int} {k : Nat} (h : n = (k : Nat)) (hk : k ≤ 100000) : rng1 [.int n] = .ok ((List.range k).map fun (i : Nat) => PyData.int (i : Int)) := by
  have := E3.rng1_nat (m := n) (by omega) (by omega)
  rw [show n.toNat = k by omega] at this
  exact this
def I_law_subset_1 : DS → Res (List D) := (fun σ => ((aCons (eCall lenD (aCons (eVar 0) aNil)) aNil) σ).bind rng1)
def B_law_subset_1 : SF := (sIf (tB (e2 eqD (e2 andD (e2 shrD (eVar 1) (eVar 3)) (eC (.int 1))) (eC (.int 1)))) (sMut 2 appendM (aCons (e2 ixD (eVar 0) (eVar 3)) aNil)) sNil)
def D_law_subset : List D → Res D := fnD 4 2 (sSeq (sNew 2 (eLst aNil))
  (sSeq (sFor I_law_subset_1 (gN 3)
  B_law_subset_1)
  (sFreeze 2 (sRet (eCall tupleD (aCons (eVar 2) aNil))))))
abbrev sB (w : Se) (b : Nat) (acc : Se) (x3 : Option Slot) : SS := [some (.sh (.list (w.map cellD))), some (.sh (.int ((b : Nat) : Int))), some (.ow (.list (acc.map cellD))), x3]
theorem bit_eq (b k : Nat) : (((b / 2 ^ k % 2 : Nat) : Int) == 1) = bitB b k := by
  unfold bitB
  by_cases e : b / 2 ^ k % 2 = 1
  · rw [e]; rfl
  · rw [decide_eq_false e]
    exact beq_eq_false_iff_ne.mpr (by omega)
theorem sub_step (w : Se) (b k : Nat) (acc : Se) (p : Pt) (hp : w[k]? = some p) (hl : acc.length ≤ 10000) : B_law_subset_1 (sB w b acc (some (.sh (.int ((k : Nat) : Int))))) = .ok .nx (sB w b (if bitB b k = true then acc ++ [p] else acc) (some (.sh (.int ((k : Nat) : Int))))) := by
  have s := shr_nat b k
  have a := and_one (b / 2 ^ k)
  have q := bit_eq b k
  have ix : ixD (.list (w.map cellD)) (.int ((k : Nat) : Int)) = .ok (cellD p) := (ix_at (by rw [List.getElem?_map, hp]; rfl)).2
  have ap : appendM (acc.map cellD) [cellD p] = some (.none, (acc ++ [p]).map cellD) := app_cells (by omega)
  unfold B_law_subset_1
  simp only [sB]
  generalize hA2 : (acc ++ [p]).map cellD = A2 at *
  generalize hA1 : acc.map cellD = A1 at *
  generalize w.map cellD = wd at *
  generalize cellD p = cd at *
  generalize ((k : Nat) : Int) = kk at *
  generalize ((b : Nat) : Int) = bb at *
  generalize ((b / 2 ^ k : Nat) : Int) = u at *
  generalize ((b / 2 ^ k % 2 : Nat) : Int) = v at *
  cases z : bitB b k with
  | true =>
    rw [z] at q
    rw [if_pos rfl, hA2]
    walk_at "ev"
    rw [s]; walk_at "ev"
    rw [a]; walk_at "ev"
    rw [q]; walk_at "ev"
    rw [ix]; walk_at "ev"
    try simp only [ownL, List.getElem?_cons_zero, List.getElem?_cons_succ]
    try walk_at "ev"
    try (rw [ix]; walk_at "ev")
    rw [ap]
    try simp only [mutK, List.getElem?_cons_zero, List.getElem?_cons_succ]
    try walk_at "ev"
    try rfl
  | false =>
    rw [z] at q
    rw [if_neg (by decide), hA1]
    walk_at "ev"
    rw [s]; walk_at "ev"
    rw [a]; walk_at "ev"
    rw [q]; walk_at "ev"
theorem sub_turns (w : Se) (b : Nat) (hl : w.length ≤ 1000) : ∀ (n k : Nat) (acc : Se) (x3 : Option Slot), k + n = w.length → acc.length ≤ k → ∃ y3, forS (gN 3) B_law_subset_1 ((List.range' k n).map fun (i : Nat) => PyData.int (i : Int)) (sB w b acc x3) = .ok .nx (sB w b (acc ++ subB (w.drop k) (b / 2 ^ k)) y3)
  | 0, k, acc, x3, hk, _ => ⟨x3, by rw [List.drop_of_length_le (by omega), show subB [] (b / 2 ^ k) = [] from rfl, List.append_nil]; rfl⟩
  | n + 1, k, acc, x3, hk, ha => by
    have hlt : k < w.length := by omega
    have st := sub_step w b k acc w[k] (List.getElem?_eq_getElem hlt) (by omega)
    have e : (if bitB b k = true then acc ++ [w[k]] else acc) ++ subB (w.drop (k + 1)) (b / 2 ^ (k + 1)) = acc ++ subB (w.drop k) (b / 2 ^ k) := by
      rw [List.drop_eq_getElem_cons hlt, subB, Nat.pow_succ, ← Nat.div_div_eq_div_mul]
      by_cases z : b / 2 ^ k % 2 = 1
      · rw [if_pos z, if_pos (show bitB b k = true from decide_eq_true z), List.append_assoc]; rfl
      · rw [if_neg z, if_neg (by unfold bitB; rw [decide_eq_false z]; exact Bool.false_ne_true)]
    obtain ⟨y3, f⟩ := sub_turns w b hl n (k + 1) (if bitB b k = true then acc ++ [w[k]] else acc) (some (.sh (.int ((k : Nat) : Int)))) (by omega) (by split <;> (try rw [List.length_append, List.length_singleton]) <;> omega)
    rw [e] at f
    rw [List.range'_succ, List.map_cons]
    exact ⟨y3, (forS_cons (p := gN 3) (σ1 := sB w b acc (some (.sh (.int ((k : Nat) : Int))))) rfl st).trans f⟩
theorem sub_fin (FF : SF) (a : D) (b : D) (l : List D) (y3 : Option Slot) (f : FF [some (.sh a), some (.sh b), some (.ow (.list [])), none] = .ok .nx [some (.sh a), some (.sh b), some (.ow (.list l)), y3]) : fnD 4 2 (sSeq (sNew 2 (eLst aNil)) (sSeq FF (sFreeze 2 (sRet (eCall tupleD (aCons (eVar 2) aNil)))))) [a, b] = .ok (.tuple l) := by
  walk_at "ev"
  rw [f]; walk_at "ev"
  try rfl
theorem len_it (RG : List D → Res (List D)) (σ : DS) (xd ks : List D) (n : Int) (hv : eVar 0 σ = .ok (.list xd)) (hn : n = (xd.length : Nat)) (rg : RG [.int n] = .ok ks) : (fun σ => ((aCons (eCall lenD (aCons (eVar 0) aNil)) aNil) σ).bind RG) σ = .ok ks := by
  simp only [aCons, eCall, aNil, hv, Res.bind_ok]
  show (((lenD [.list xd]).bind _).bind RG) = _
  rw [show lenD [.list xd] = .ok (.int n) by rw [hn]; rfl]
  exact rg
theorem subset_ok (w : Se) (b : Nat) (hl : w.length ≤ 1000) : D_law_subset [.list (w.map cellD), .int ((b : Nat) : Int)] = .ok (tupC (subB w b)) := by
  obtain ⟨y3, e⟩ := sub_turns w b hl w.length 0 [] none (Nat.zero_add _) (Nat.zero_le _)
  rw [List.nil_append, List.drop_zero, Nat.pow_zero, Nat.div_one] at e
  refine sub_fin _ _ _ _ y3 ?_
  show sFor I_law_subset_1 (gN 3) B_law_subset_1 (sB w b [] none) = _
  unfold sFor
  obtain ⟨m, hm⟩ : ∃ m : Int, m = (w.length : Nat) := ⟨_, rfl⟩
  have rg := rng_k hm (by omega)
  rw [List.range_eq_range'] at rg
  rw [show I_law_subset_1 (mask (sB w b [] none)) = .ok ((List.range' 0 w.length).map fun (i : Nat) => PyData.int (i : Int)) from len_it rng1 _ (w.map cellD) _ m rfl (by rw [List.length_map]; exact hm) rg]
  exact e
def I_law_less_1 : DS → Res (List D) := (fun σ => ((aCons (eVar 2) aNil) σ).bind rng1)
def B_law_less_1 : SF := (sIf (E3.tAnd (tB (e2 eqD (e2 andD (e2 shrD (eVar 1) (eVar 3)) (eC (.int 1))) (eC (.int 1)))) (E3.tB (e2 ixD (eVar 0) (e2 subD (eVar 1) (e2 shlD (eC (.int 1)) (eVar 3)))))) (sRet (eC (.bool true))) sNil)
def D_law_less : List D → Res D := fnD 4 3 (sSeq (sFor I_law_less_1 (gN 3)
  B_law_less_1)
  (sRet (eC (.bool false))))
theorem ls_step (gl : List D) (b k : Nat) (x2 : Option Slot) (t : Bool) (hk : k ≤ 1000) (h : bitB b k = true → 2 ^ k ≤ b ∧ gl[b - 2 ^ k]? = some (.bool t)) : B_law_less_1 [some (.sh (.list gl)), some (.sh (.int ((b : Nat) : Int))), x2, some (.sh (.int ((k : Nat) : Int)))] = if (bitB b k && t) = true then .ok (.rt (.bool true)) [some (.sh (.list gl)), some (.sh (.int ((b : Nat) : Int))), x2, some (.sh (.int ((k : Nat) : Int)))] else .ok .nx [some (.sh (.list gl)), some (.sh (.int ((b : Nat) : Int))), x2, some (.sh (.int ((k : Nat) : Int)))] := by
  have s := shr_nat b k
  have a := and_one (b / 2 ^ k)
  have q := bit_eq b k
  have sl := shl_one k (by omega)
  unfold B_law_less_1
  cases z : bitB b k with
  | false =>
    rw [z] at q
    rw [Bool.false_and, if_neg (by decide)]
    clear h
    generalize ((k : Nat) : Int) = kk at *
    generalize ((b : Nat) : Int) = bb at *
    generalize ((b / 2 ^ k : Nat) : Int) = u at *
    generalize ((b / 2 ^ k % 2 : Nat) : Int) = v at *
    walk_at "ev"
    rw [s]; walk_at "ev"
    rw [a]; walk_at "ev"
    rw [q]; walk_at "ev"
  | true =>
    rw [z] at q
    obtain ⟨h1, h2⟩ := h z
    have ix : ixD (.list gl) (.int (((b : Nat) : Int) - ((2 ^ k : Nat) : Int))) = .ok (.bool t) := by
      rw [show ((b : Nat) : Int) - ((2 ^ k : Nat) : Int) = ((b - 2 ^ k : Nat) : Int) by omega]
      exact (ix_at h2).2
    rw [Bool.true_and]
    clear h h2 h1
    generalize ((2 ^ k : Nat) : Int) = p at *
    generalize ((k : Nat) : Int) = kk at *
    generalize ((b : Nat) : Int) = bb at *
    generalize ((b / 2 ^ k : Nat) : Int) = u at *
    generalize ((b / 2 ^ k % 2 : Nat) : Int) = v at *
    cases t with
    | true =>
      rw [if_pos rfl]
      walk_at "ev"
      rw [s]; walk_at "ev"
      rw [a]; walk_at "ev"
      rw [q]; walk_at "ev"
      rw [sl]; walk_at "ev"
      rw [ix]; walk_at "ev"
    | false =>
      rw [if_neg (by decide)]
      walk_at "ev"
      rw [s]; walk_at "ev"
      rw [a]; walk_at "ev"
      rw [q]; walk_at "ev"
      rw [sl]; walk_at "ev"
      rw [ix]; walk_at "ev"
theorem ls_turns (gl : List D) (good : Nat → Bool) (b : Nat) (x2 : Option Slot) (hg : ∀ k, bitB b k = true → 2 ^ k ≤ b ∧ gl[b - 2 ^ k]? = some (.bool (good (b - 2 ^ k)))) : ∀ (ks : List Nat) (x3 : Option Slot), (∀ k ∈ ks, k ≤ 1000) →
    (((ks.any fun k => bitB b k && good (b - 2 ^ k)) = true → ∃ σ, forS (gN 3) B_law_less_1 (ks.map fun (i : Nat) => PyData.int (i : Int)) [some (.sh (.list gl)), some (.sh (.int ((b : Nat) : Int))), x2, x3] = .ok (.rt (.bool true)) σ) ∧
    ((ks.any fun k => bitB b k && good (b - 2 ^ k)) = false → ∃ y3, forS (gN 3) B_law_less_1 (ks.map fun (i : Nat) => PyData.int (i : Int)) [some (.sh (.list gl)), some (.sh (.int ((b : Nat) : Int))), x2, x3] = .ok .nx [some (.sh (.list gl)), some (.sh (.int ((b : Nat) : Int))), x2, y3]))
  | [], x3, _ => ⟨fun e => (by cases e), fun _ => ⟨x3, rfl⟩⟩
  | k :: ks, x3, hk => by
    have st := ls_step gl b k x2 (good (b - 2 ^ k)) (hk k List.mem_cons_self) fun z => hg k z
    have pt : (gN 3) (.int ((k : Nat) : Int)) [some (.sh (.list gl)), some (.sh (.int ((b : Nat) : Int))), x2, x3] = some [some (.sh (.list gl)), some (.sh (.int ((b : Nat) : Int))), x2, some (.sh (.int ((k : Nat) : Int)))] := rfl
    obtain ⟨i1, i2⟩ := ls_turns gl good b x2 hg ks (some (.sh (.int ((k : Nat) : Int)))) fun j h => hk j (List.mem_cons_of_mem _ h)
    rw [List.any_cons, List.map_cons]
    cases z : (bitB b k && good (b - 2 ^ k)) with
    | true =>
      rw [z, if_pos rfl] at st
      exact ⟨fun _ => ⟨_, H80.forS_rt pt st⟩, fun e => (by rw [Bool.true_or] at e; cases e)⟩
    | false =>
      rw [z, if_neg (by decide)] at st
      rw [Bool.false_or]
      refine ⟨fun e => ?_, fun e => ?_⟩
      · obtain ⟨σ, f⟩ := i1 e
        exact ⟨σ, (forS_cons pt st).trans f⟩
      · obtain ⟨y3, f⟩ := i2 e
        exact ⟨y3, (forS_cons pt st).trans f⟩
theorem ls_fin (FF : SF) (a b c d : D) (σ : SS) (f : FF [some (.sh a), some (.sh b), some (.sh c), none] = .ok (.rt d) σ) : fnD 4 3 (sSeq FF (sRet (eC (.bool false)))) [a, b, c] = .ok d := by
  walk_at "ev"
  rw [f]
theorem ls_fin0 (FF : SF) (a b c : D) (σ : SS) (f : FF [some (.sh a), some (.sh b), some (.sh c), none] = .ok .nx σ) : fnD 4 3 (sSeq FF (sRet (eC (.bool false)))) [a, b, c] = .ok (.bool false) := by
  walk_at "ev"
  rw [f]
  try rfl
theorem less_it (RG : List D → Res (List D)) (gl bd md : D) (ks : List D) (rg : RG [md] = .ok ks) : (fun σ => ((aCons (eVar 2) aNil) σ).bind RG) (mask [some (.sh gl), some (.sh bd), some (.sh md), none]) = .ok ks := rg
theorem less_for (ks : List D) (it : DS → Res (List D)) (B : SF) (σ : SS) (r : SR) (h : it (mask σ) = .ok ks) (e : forS (gN 3) B ks σ = r) : sFor it (gN 3) B σ = r := by
  unfold sFor
  rw [h]
  exact e
theorem less_ok (gl : List D) (good : Nat → Bool) (b n : Nat) (hn : n ≤ 1000) (hg : ∀ k, bitB b k = true → 2 ^ k ≤ b ∧ gl[b - 2 ^ k]? = some (.bool (good (b - 2 ^ k)))) (bb m : Int) (hb : bb = (b : Nat)) (hm : m = (n : Nat)) : D_law_less [.list gl, .int bb, .int m] = .ok (.bool (lessB good b n)) := by
  obtain ⟨i1, i2⟩ := ls_turns gl good b (some (.sh (.int m))) hg (List.range n) none fun k h => by have := List.mem_range.mp h; omega
  rw [← hb] at i1 i2
  have rg := rng_k hm (by omega)
  have it : I_law_less_1 (mask [some (.sh (.list gl)), some (.sh (.int bb)), some (.sh (.int m)), none]) = .ok ((List.range n).map fun (i : Nat) => PyData.int (i : Int)) := less_it rng1 _ _ _ _ rg
  unfold lessB D_law_less
  generalize ((List.range n).map fun (i : Nat) => PyData.int (i : Int)) = ks at *
  cases z : (List.range n).any fun k => bitB b k && good (b - 2 ^ k) with
  | true =>
    obtain ⟨σ, f⟩ := i1 z
    exact ls_fin _ _ _ _ _ σ (less_for _ _ _ _ _ it f)
  | false =>
    obtain ⟨y3, f⟩ := i2 z
    exact ls_fin0 _ _ _ _ _ (less_for _ _ _ _ _ it f)
theorem bit_le {b k : Nat} (h : bitB b k = true) : 2 ^ k ≤ b := by
  unfold bitB at h
  have h := of_decide_eq_true h
  refine Classical.byContradiction fun n => ?_
  rw [Nat.div_eq_of_lt (by omega)] at h
  cases h
end
end H48
namespace H48
open PySem PySem.Spec PyProof.Rows L2 E3 
local macro_rules | `(tactic| walk_at "ev") => `(tactic| try simp (disch := first | decide | decide +kernel | omega) only [fnD, xOr, xNot, startF, endF, sSeq, sAsg, sSet, sSetV, sAsgV, sIf, sRet, sNew, sNewV, sMut, sMutV, sFor, sForR, sFreeze, sNil, sExpr, optK, thenR_ok, thenR_exc, thenR_stuck,
  view, mask, E3.eVar_zero, E3.eVar_succ, eC, e1, e2, eCall, eTup, eLst, eSl, oNone, oSome, eAnd, eOr, eIf, E3.tAnd, E3.tOr, E3.tNot, E3.tB, asB, notD, aNil, aCons, Res.bind_ok, Res.bind_exc, Res.bind_stuck,
  gT, gsCons, gsNil, gN, tupD, lstD, Slot.dat, Slot.shd, List.length_cons, List.length_nil, List.map_cons, List.map_nil, List.replicate, List.append_nil, List.cons_append, List.nil_append, Option.map_some, Option.map_none, Option.bind_some, Option.bind_none,
  List.getElem?_cons_zero, List.getElem?_cons_succ, List.set_cons_zero, List.set_cons_succ, Nat.reduceAdd, Nat.reduceSub, Nat.reduceEqDiff, if_true, if_false, ite_true, ite_false, reduceIte, decide_true, decide_false, reduceCtorEq, Bool.not_true, Bool.not_false, Bool.false_eq_true, Bool.true_eq_false, Bool.or_true, Bool.true_or, Bool.false_or, Bool.or_false, Bool.and_true, Bool.and_false, Bool.true_and, Bool.false_and, addI, subI, ltI, leI, gtI, geI, eqI, neI, E3.negI, ix_cell0, ix_cell1, E3.le0, E3.le1, E3.le2, E3.le3, E3.le4, E3.le5, E3.le6, beq_self_eq_true, Int.reduceBEq, E3.divmodI, E3.modI, E3.fdivI, E3.powL, E3.mulLL, E3.isi_bool_none, E3.isi_bool_bool, E3.isi_bool_int, E3.isi_bool_str, E3.isi_bool_list, E3.isi_bool_tuple, E3.isi_int_none, E3.isi_int_bool, E3.isi_int_int, E3.isi_int_str, E3.isi_int_list, E3.isi_int_tuple, E3.isi_str_none, E3.isi_str_bool, E3.isi_str_int, E3.isi_str_str, E3.isi_str_list, E3.isi_str_tuple, E3.isi_list_none, E3.isi_list_bool, E3.isi_list_int, E3.isi_list_str, E3.isi_list_list, E3.isi_list_tuple, E3.isi_tuple_none, E3.isi_tuple_bool, E3.isi_tuple_int, E3.isi_tuple_str, E3.isi_tuple_list, E3.isi_tuple_tuple, E3.isN_none, E3.ntN_none, E3.isN_bool, E3.ntN_bool, E3.isN_int, E3.ntN_int, E3.isN_str, E3.ntN_str, E3.isN_list, E3.ntN_list, E3.isN_tuple, E3.ntN_tuple, E3.len_list, E3.len_tup, E3.seq_list, E3.seq_tup, E3.tup_list, E3.tup_tup, E3.lst_list, E3.lst_tup, xM, xV, xB, xTB, x2, xAnd, xNil, xCons, xTup, xLst, xCall, xSl, xPotd, ownXd, potKd, ePotE, dropKV, fnPd, startPd, endPd, slL, eSlL, xPot, ownX, potK, XR.bind_ok, XR.bind_exc, XR.bind_stuck, XR.of_ok, XR.of_exc, XR.of_stuck, thenX_ok, thenX_exc, thenX_stuck, qSet, qRet, qIf, qAsg, qForR, qFor, H70.fR_i, H70.fR_b, H70.fR_ii, H70.fR_c, fnP, startP, endP, fnL, startL, endL, xPotL, xLast, fnN, endN, E3.ix_lst0, Int.cast_ofNat_Int])
local macro_rules | `(tactic| walk_at "evs") => `(tactic| try simp (disch := first | decide | decide +kernel | omega) only [fnD, xOr, xNot, startF, endF, sSeq, sAsg, sSet, sSetV, sAsgV, sIf, sRet, sNew, sNewV, sMut, sMutV, sFor, sForR, sFreeze, sNil, sExpr, optK, thenR_ok, thenR_exc, thenR_stuck,
  view, mask, E3.eVar_zero, E3.eVar_succ, eC, e1, e2, eCall, eTup, eLst, eSl, oNone, oSome, eAnd, eOr, eIf, E3.tAnd, E3.tOr, E3.tNot, E3.tB, asB, notD, aNil, aCons, Res.bind_ok, Res.bind_exc, Res.bind_stuck,
  gT, gsCons, gsNil, gN, tupD, lstD, Slot.dat, Slot.shd, List.length_cons, List.length_nil, List.map_cons, List.map_nil, List.replicate, List.append_nil, List.cons_append, List.nil_append, Option.map_some, Option.map_none, Option.bind_some, Option.bind_none,
  List.getElem?_cons_zero, List.getElem?_cons_succ, List.set_cons_zero, List.set_cons_succ, Nat.reduceAdd, Nat.reduceSub, Nat.reduceEqDiff, if_true, if_false, ite_true, ite_false, reduceIte, decide_true, decide_false, reduceCtorEq, Bool.not_true, Bool.not_false, Bool.false_eq_true, Bool.true_eq_false, Bool.or_true, Bool.true_or, Bool.false_or, Bool.or_false, Bool.and_true, Bool.and_false, Bool.true_and, Bool.false_and, addI, subI, ltI, leI, gtI, geI, eqI, neI, E3.negI, ix_cell0, ix_cell1, E3.le0, E3.le1, E3.le2, E3.le3, E3.le4, E3.le5, E3.le6, beq_self_eq_true, Int.reduceBEq, E3.divmodI, E3.modI, E3.fdivI, E3.powL, E3.mulLL, E3.isi_bool_none, E3.isi_bool_bool, E3.isi_bool_int, E3.isi_bool_str, E3.isi_bool_list, E3.isi_bool_tuple, E3.isi_int_none, E3.isi_int_bool, E3.isi_int_int, E3.isi_int_str, E3.isi_int_list, E3.isi_int_tuple, E3.isi_str_none, E3.isi_str_bool, E3.isi_str_int, E3.isi_str_str, E3.isi_str_list, E3.isi_str_tuple, E3.isi_list_none, E3.isi_list_bool, E3.isi_list_int, E3.isi_list_str, E3.isi_list_list, E3.isi_list_tuple, E3.isi_tuple_none, E3.isi_tuple_bool, E3.isi_tuple_int, E3.isi_tuple_str, E3.isi_tuple_list, E3.isi_tuple_tuple, E3.isN_none, E3.ntN_none, E3.isN_bool, E3.ntN_bool, E3.isN_int, E3.ntN_int, E3.isN_str, E3.ntN_str, E3.isN_list, E3.ntN_list, E3.isN_tuple, E3.ntN_tuple, E3.len_list, E3.len_tup, E3.seq_list, E3.seq_tup, E3.tup_list, E3.tup_tup, E3.lst_list, E3.lst_tup, xM, xV, xB, xTB, x2, xAnd, xNil, xCons, xTup, xLst, xCall, xSl, xPotd, ownXd, potKd, ePotE, dropKV, fnPd, startPd, endPd, slL, eSlL, xPot, ownX, potK, XR.bind_ok, XR.bind_exc, XR.bind_stuck, XR.of_ok, XR.of_exc, XR.of_stuck, thenX_ok, thenX_exc, thenX_stuck, qSet, qRet, qIf, qAsg, qForR, qFor, H70.fR_i, H70.fR_b, H70.fR_ii, H70.fR_c, fnP, startP, endP, fnL, startL, endL, xPotL, xLast, fnN, endN, E3.ix_lst0, Int.cast_ofNat_Int, *])
open H70
noncomputable section
theorem cross_go {done found M : List Se} {one : Se} {rest : List Se} (t : Told (hits done) found) (nd : M.Nodup) (hM : ∀ a, a ∈ M ↔ MinP (hits (done ++ [one])) a) (h60 : M.length ≤ 60) (h400 : ∀ a ∈ M, a.length ≤ 400) : crossF found (one :: rest) = crossF (srtS M) rest ∧ Told (hits (done ++ [one])) (srtS M) := by
  have g := cross_step (one := one) t.is
  refine ⟨?_, (srtS_perm M).nodup_iff.mpr nd, fun a => mem_srtS.trans (hM a), srtS_idem M⟩
  rw [crossF, lookS_gen g nd hM h60 h400]
  rfl
theorem cross_no {done found M : List Se} {one : Se} {rest : List Se} (t : Told (hits done) found) (nd : M.Nodup) (hM : ∀ a ∈ M, MinP (hits (done ++ [one])) a) (h60 : 60 < M.length) : crossF found (one :: rest) = none := by
  rw [crossF, lookS_over (cross_step (one := one) t.is) nd hM h60]
  rfl
theorem hits_mono {sets : List Se} {a b : Se} (s : Sub a b) (h : hits sets a) : hits sets b := fun t ht => by
  obtain ⟨x, x1, x2⟩ := h t ht
  exact ⟨x, s x x1, x2⟩
theorem join_disj {done found : List Se} {one : Se} (t : Told (hits done) found) (n1 : one.Nodup) (dj : ∀ a ∈ found, ∀ x ∈ a, x ∉ one) : (joinS found (one.map fun s => [s])).Nodup ∧ ∀ a, a ∈ joinS found (one.map fun s => [s]) ↔ MinP (hits (done ++ [one])) a := by
  have g := cross_step (one := one) t.is
  have key : ∀ a ∈ found, ∀ s ∈ one, ∀ a' ∈ found, ∀ s' ∈ one, Sub (srt (a' ++ [s'])) (srt (a ++ [s])) → a' = a ∧ s' = s := fun a ha s hs a' ha' s' hs' sub => by
    have up : ∀ x ∈ a' ++ [s'], x ∈ a ++ [s] := fun x hx => mem_srt.mp (sub x (mem_srt.mpr hx))
    have h1 : Sub a' a := fun x hx => by
      rcases List.mem_append.mp (up x (List.mem_append_left _ hx)) with h | h
      · exact h
      · exact absurd (by rw [List.mem_singleton.mp h]; exact hs) (dj a' ha' x hx)
    have h2 : s' = s := by
      rcases List.mem_append.mp (up s' (List.mem_append_right _ List.mem_cons_self)) with h | h
      · exact absurd hs' (dj a ha s' h)
      · exact List.mem_singleton.mp h
    have m := (t.is a).mp ha
    have m' := (t.is a').mp ha'
    exact ⟨m.2.2 a' m'.1 m'.2.1 h1, h2⟩
  refine ⟨?_, fun a => ?_⟩
  · unfold joinS
    have gen : ∀ fs : List Se, fs.Nodup → (∀ a ∈ fs, a ∈ found) → (fs.flatMap fun a => (one.map fun s => [s]).map fun b => srt (a ++ b)).Nodup := by
      intro fs
      induction fs with
      | nil => intro _ _; exact List.nodup_nil
      | cons a fs ih =>
        intro nd hs
        obtain ⟨q1, q2⟩ := List.nodup_cons.mp nd
        rw [List.flatMap_cons, List.nodup_append]
        refine ⟨?_, ih q2 fun b hb => hs b (List.mem_cons_of_mem _ hb), fun x hx y hy e => ?_⟩
        · rw [List.map_map]
          refine List.Pairwise.map _ (fun a b h => h) (List.Pairwise.imp_of_mem ?_ n1)
          intro s s' h h' ne e
          have e : srt (a ++ [s]) = srt (a ++ [s']) := e
          exact ne (key a (hs a List.mem_cons_self) s' h' a (hs a List.mem_cons_self) s h (by rw [e]; exact Sub.refl _)).2
        · obtain ⟨b, hb, rfl⟩ := List.mem_map.mp hx
          obtain ⟨s, h, rfl⟩ := List.mem_map.mp hb
          obtain ⟨a', ha', hy⟩ := List.mem_flatMap.mp hy
          obtain ⟨b', hb', rfl⟩ := List.mem_map.mp hy
          obtain ⟨s', h', rfl⟩ := List.mem_map.mp hb'
          have := (key a' (hs a' (List.mem_cons_of_mem _ ha')) s' h' a (hs a List.mem_cons_self) s h (by rw [e]; exact Sub.refl _)).1
          exact q1 (by rw [this]; exact ha')
    exact gen found t.nd fun a h => h
  · rw [← gen_min g]
    refine ⟨fun h => ⟨h, fun b hb s l => ?_⟩, fun h => h.1⟩
    obtain ⟨p, hp, q, hq, rfl⟩ := mem_join.mp h
    obtain ⟨x, hx, rfl⟩ := List.mem_map.mp hq
    obtain ⟨p', hp', q', hq', rfl⟩ := mem_join.mp hb
    obtain ⟨x', hx', rfl⟩ := List.mem_map.mp hq'
    obtain ⟨e1, e2⟩ := key p hp x hx p' hp' x' hx' s
    rw [e1, e2] at l
    exact Nat.lt_irrefl _ l
theorem cross_disj {done found : List Se} {one : Se} {rest : List Se} (t : Told (hits done) found) (n1 : one.Nodup) (dj : ∀ a ∈ found, ∀ x ∈ a, x ∉ one) (h60 : found.length * one.length ≤ 60) (h400 : ∀ a ∈ found, a.length ≤ 399) : ∃ G, crossF found (one :: rest) = crossF G rest ∧ Told (hits (done ++ [one])) G ∧ G.length = found.length * one.length ∧ (∀ a ∈ G, ∀ x ∈ a, (∃ b ∈ found, x ∈ b) ∨ x ∈ one) ∧ ∀ a ∈ G, ∃ b ∈ found, a.length ≤ b.length + 1 := by
  obtain ⟨nd, hM⟩ := join_disj t n1 dj
  have el : ∀ a ∈ joinS found (one.map fun s => [s]), (∀ x ∈ a, (∃ b ∈ found, x ∈ b) ∨ x ∈ one) ∧ ∃ b ∈ found, a.length ≤ b.length + 1 := fun a ha => by
    obtain ⟨p, hp, q, hq, rfl⟩ := mem_join.mp ha
    obtain ⟨s, hs, rfl⟩ := List.mem_map.mp hq
    refine ⟨fun x hx => ?_, p, hp, by have := srt_len (p ++ [s]); rw [List.length_append, List.length_singleton] at this; exact this⟩
    rcases List.mem_append.mp (mem_srt.mp hx) with h | h
    · exact .inl ⟨p, hp, h⟩
    · exact .inr (by rw [List.mem_singleton.mp h]; exact hs)
  have ln : (joinS found (one.map fun s => [s])).length = found.length * one.length := by rw [join_len, List.length_map]
  obtain ⟨c, tt⟩ := cross_go (rest := rest) t nd hM (by omega) fun a ha => by
    obtain ⟨b, hb, l⟩ := (el a ha).2
    have := h400 b hb
    omega
  refine ⟨_, c, tt, by rw [(srtS_perm _).length_eq, ln], fun a ha => (el a (mem_srtS.mp ha)).1, fun a ha => (el a (mem_srtS.mp ha)).2⟩
theorem cross_over {done found : List Se} {one : Se} {rest : List Se} (t : Told (hits done) found) (n1 : one.Nodup) (dj : ∀ a ∈ found, ∀ x ∈ a, x ∉ one) (h60 : 60 < found.length * one.length) : crossF found (one :: rest) = none := by
  obtain ⟨nd, hM⟩ := join_disj t n1 dj
  exact cross_no t nd (fun a h => (hM a).mp h) (by rw [join_len, List.length_map]; exact h60)
theorem cross_pairs : ∀ (ps done found : List Se) (rest : List Se) (L : Nat), Told (hits done) found → (∀ p ∈ ps, p.length = 2 ∧ p.Nodup) → (ps.Pairwise fun p q => ∀ x ∈ p, x ∉ q) → (∀ a ∈ found, ∀ x ∈ a, ∀ p ∈ ps, x ∉ p) → (∀ a ∈ found, a.length ≤ L) → L + ps.length ≤ 390 → found.length * 2 ^ ps.length ≤ 60 → ∃ G, crossF found (ps ++ rest) = crossF G rest ∧ Told (hits (done ++ ps)) G ∧ G.length = found.length * 2 ^ ps.length ∧ (∀ a ∈ G, ∀ x ∈ a, (∃ b ∈ found, x ∈ b) ∨ ∃ p ∈ ps, x ∈ p) ∧ ∀ a ∈ G, a.length ≤ L + ps.length
  | [], done, found, rest, L, t, _, _, _, hl, _, _ => ⟨found, rfl, by rw [List.append_nil]; exact t, by rw [List.length_nil, Nat.pow_zero, Nat.mul_one], fun a ha x hx => .inl ⟨a, ha, hx⟩, hl⟩
  | p :: ps, done, found, rest, L, t, h2, pw, dj, hl, h90, h60 => by
    obtain ⟨p1, p2⟩ := List.pairwise_cons.mp pw
    obtain ⟨q1, q2⟩ := h2 p List.mem_cons_self
    rw [List.length_cons, Nat.pow_succ] at h60
    rw [List.length_cons] at h90
    have pos : 0 < 2 ^ ps.length := Nat.pow_pos (by decide)
    have le : found.length * 2 ≤ 60 := by
      refine Nat.le_trans ?_ h60
      refine Nat.mul_le_mul_left _ ?_
      omega
    obtain ⟨G, c, tG, lG, sG, mG⟩ := cross_disj (rest := ps ++ rest) t q2 (fun a ha x hx => dj a ha x hx p List.mem_cons_self) (by rw [q1]; exact le) (fun a ha => by have := hl a ha; omega)
    obtain ⟨G2, c2, t2, l2, s2, m2⟩ := cross_pairs ps (done ++ [p]) G rest (L + 1) tG (fun q h => h2 q (List.mem_cons_of_mem _ h)) p2 (fun a ha x hx q hq => by
      rcases sG a ha x hx with ⟨b, hb, xb⟩ | h
      · exact dj b hb x xb q (List.mem_cons_of_mem _ hq)
      · exact p1 q hq x h) (fun a ha => by
      obtain ⟨b, hb, lb⟩ := mG a ha
      have := hl b hb
      omega) (by omega) (by rw [lG, q1, Nat.mul_assoc, Nat.mul_comm 2]; exact h60)
    refine ⟨G2, by rw [List.cons_append]; exact c.trans c2, by rw [List.append_assoc] at t2; exact t2, by rw [l2, lG, q1, List.length_cons, Nat.pow_succ, Nat.mul_assoc, Nat.mul_comm 2], fun a ha x hx => ?_, fun a ha => by have := m2 a ha; rw [List.length_cons]; omega⟩
    rcases s2 a ha x hx with ⟨b, hb, xb⟩ | ⟨q, hq, xq⟩
    · rcases sG b hb x xb with ⟨d, hd, xd⟩ | h
      · exact .inl ⟨d, hd, xd⟩
      · exact .inr ⟨p, List.mem_cons_self, h⟩
    · exact .inr ⟨q, List.mem_cons_of_mem _ hq, xq⟩
theorem pair_min {A B : Se} {a b : Pt} (aA : a ∈ A) (bB : b ∈ B) (aB : a ∉ B) (bA : b ∉ A) : MinP (hits [A, B]) (srt [a, b]) := by
  refine ⟨pw_srt _, fun t ht => ?_, fun c rc hc s => ?_⟩
  · rcases List.mem_cons.mp ht with rfl | ht
    · exact ⟨a, mem_srt.mpr List.mem_cons_self, aA⟩
    · rw [List.mem_singleton.mp ht]
      exact ⟨b, mem_srt.mpr (List.mem_cons_of_mem _ List.mem_cons_self), bB⟩
  · have up : ∀ x ∈ c, x = a ∨ x = b := fun x hx => by
      have := mem_srt.mp (s x hx)
      rcases List.mem_cons.mp this with h | h
      · exact .inl h
      · exact .inr (List.mem_singleton.mp h)
    refine rs_ext rc (pw_srt _) fun x => ⟨s x, fun hx => ?_⟩
    rcases List.mem_cons.mp (mem_srt.mp hx) with h | h
    · obtain ⟨y, y1, y2⟩ := hc A List.mem_cons_self
      rcases up y y1 with e | e
      · rw [h, ← e]; exact y1
      · exact absurd (e ▸ y2) bA
    · have h := List.mem_singleton.mp h
      obtain ⟨y, y1, y2⟩ := hc B (List.mem_cons_of_mem _ List.mem_cons_self)
      rcases up y y1 with e | e
      · exact absurd (e ▸ y2) aB
      · rw [h, ← e]; exact y1
theorem one_min {A B : Se} {m : Pt} (mA : m ∈ A) (mB : m ∈ B) : MinP (hits [A, B]) [m] := by
  refine ⟨List.pairwise_singleton _ _, fun t ht => ?_, fun c rc hc s => ?_⟩
  · rcases List.mem_cons.mp ht with rfl | ht
    · exact ⟨m, List.mem_cons_self, mA⟩
    · rw [List.mem_singleton.mp ht]
      exact ⟨m, List.mem_cons_self, mB⟩
  · obtain ⟨y, y1, _⟩ := hc A List.mem_cons_self
    refine rs_ext rc (List.pairwise_singleton _ _) fun x => ⟨s x, fun hx => ?_⟩
    rw [List.mem_singleton.mp hx, ← List.mem_singleton.mp (s y y1)]
    exact y1
theorem two_mins {A B a : Se} (h : MinP (hits [A, B]) a) : (∃ m, m ∈ A ∧ m ∈ B ∧ a = [m]) ∨ ∃ x y, x ∈ A ∧ y ∈ B ∧ x ∉ B ∧ y ∉ A ∧ a = srt [x, y] := by
  obtain ⟨x, x1, x2⟩ := h.2.1 A List.mem_cons_self
  obtain ⟨y, y1, y2⟩ := h.2.1 B (List.mem_cons_of_mem _ List.mem_cons_self)
  have one : ∀ m ∈ a, m ∈ A → m ∈ B → a = [m] := fun m ma mA mB => (h.2.2 [m] (List.pairwise_singleton _ _) (one_min mA mB).2.1 fun z hz => by rw [List.mem_singleton.mp hz]; exact ma).symm
  by_cases xB : x ∈ B
  · exact .inl ⟨x, x2, xB, one x x1 x2 xB⟩
  · by_cases yA : y ∈ A
    · exact .inl ⟨y, yA, y2, one y y1 yA y2⟩
    · refine .inr ⟨x, y, x2, y2, xB, yA, (h.2.2 (srt [x, y]) (pw_srt _) (pair_min x2 y2 xB yA).2.1 fun z hz => ?_).symm⟩
      rcases List.mem_cons.mp (mem_srt.mp hz) with e | e
      · rw [e]; exact x1
      · rw [List.mem_singleton.mp e]; exact y1
theorem cross_nil : ∀ sets : List Se, crossF [] sets = some []
  | [] => rfl
  | one :: sets => by
    rw [crossF, show joinS [] (one.map fun s => [s]) = [] from rfl]
    have : lookS [] = some [] := by
      unfold lookS srtN
      rw [List.mergeSort_nil]
      show some (srtS []) = _
      unfold srtS
      rw [List.mergeSort_nil]
    rw [this]
    exact cross_nil sets
end
end H48
namespace K54
open PySem PySem.Spec PyProof.Rows L2 E3 
local macro_rules | `(tactic| walk_at "ev") => `(tactic| try simp (disch := first | decide | decide +kernel | omega) only [fnD, xOr, xNot, startF, endF, sSeq, sAsg, sSet, sSetV, sAsgV, sIf, sRet, sNew, sNewV, sMut, sMutV, sFor, sForR, sFreeze, sNil, sExpr, optK, thenR_ok, thenR_exc, thenR_stuck,
  view, mask, E3.eVar_zero, E3.eVar_succ, eC, e1, e2, eCall, eTup, eLst, eSl, oNone, oSome, eAnd, eOr, eIf, E3.tAnd, E3.tOr, E3.tNot, E3.tB, asB, notD, aNil, aCons, Res.bind_ok, Res.bind_exc, Res.bind_stuck,
  gT, gsCons, gsNil, gN, tupD, lstD, Slot.dat, Slot.shd, List.length_cons, List.length_nil, List.map_cons, List.map_nil, List.replicate, List.append_nil, List.cons_append, List.nil_append, Option.map_some, Option.map_none, Option.bind_some, Option.bind_none,
  List.getElem?_cons_zero, List.getElem?_cons_succ, List.set_cons_zero, List.set_cons_succ, Nat.reduceAdd, Nat.reduceSub, Nat.reduceEqDiff, if_true, if_false, ite_true, ite_false, reduceIte, decide_true, decide_false, reduceCtorEq, Bool.not_true, Bool.not_false, Bool.false_eq_true, Bool.true_eq_false, Bool.or_true, Bool.true_or, Bool.false_or, Bool.or_false, Bool.and_true, Bool.and_false, Bool.true_and, Bool.false_and, addI, subI, ltI, leI, gtI, geI, eqI, neI, E3.negI, ix_cell0, ix_cell1, E3.le0, E3.le1, E3.le2, E3.le3, E3.le4, E3.le5, E3.le6, beq_self_eq_true, Int.reduceBEq, E3.divmodI, E3.modI, E3.fdivI, E3.powL, E3.mulLL, E3.isi_bool_none, E3.isi_bool_bool, E3.isi_bool_int, E3.isi_bool_str, E3.isi_bool_list, E3.isi_bool_tuple, E3.isi_int_none, E3.isi_int_bool, E3.isi_int_int, E3.isi_int_str, E3.isi_int_list, E3.isi_int_tuple, E3.isi_str_none, E3.isi_str_bool, E3.isi_str_int, E3.isi_str_str, E3.isi_str_list, E3.isi_str_tuple, E3.isi_list_none, E3.isi_list_bool, E3.isi_list_int, E3.isi_list_str, E3.isi_list_list, E3.isi_list_tuple, E3.isi_tuple_none, E3.isi_tuple_bool, E3.isi_tuple_int, E3.isi_tuple_str, E3.isi_tuple_list, E3.isi_tuple_tuple, E3.isN_none, E3.ntN_none, E3.isN_bool, E3.ntN_bool, E3.isN_int, E3.ntN_int, E3.isN_str, E3.ntN_str, E3.isN_list, E3.ntN_list, E3.isN_tuple, E3.ntN_tuple, E3.len_list, E3.len_tup, E3.seq_list, E3.seq_tup, E3.tup_list, E3.tup_tup, E3.lst_list, E3.lst_tup, xM, xV, xB, xTB, x2, xAnd, xNil, xCons, xTup, xLst, xCall, xSl, xPotd, ownXd, potKd, ePotE, dropKV, fnPd, startPd, endPd, slL, eSlL, xPot, ownX, potK, XR.bind_ok, XR.bind_exc, XR.bind_stuck, XR.of_ok, XR.of_exc, XR.of_stuck, thenX_ok, thenX_exc, thenX_stuck, qSet, qRet, qIf, qAsg, qForR, qFor, H70.fR_i, H70.fR_b, H70.fR_ii, H70.fR_c, fnP, startP, endP, fnL, startL, endL, xPotL, xLast, fnN, endN, E3.ix_lst0, Int.cast_ofNat_Int])
local macro_rules | `(tactic| walk_at "evs") => `(tactic| try simp (disch := first | decide | decide +kernel | omega) only [fnD, xOr, xNot, startF, endF, sSeq, sAsg, sSet, sSetV, sAsgV, sIf, sRet, sNew, sNewV, sMut, sMutV, sFor, sForR, sFreeze, sNil, sExpr, optK, thenR_ok, thenR_exc, thenR_stuck,
  view, mask, E3.eVar_zero, E3.eVar_succ, eC, e1, e2, eCall, eTup, eLst, eSl, oNone, oSome, eAnd, eOr, eIf, E3.tAnd, E3.tOr, E3.tNot, E3.tB, asB, notD, aNil, aCons, Res.bind_ok, Res.bind_exc, Res.bind_stuck,
  gT, gsCons, gsNil, gN, tupD, lstD, Slot.dat, Slot.shd, List.length_cons, List.length_nil, List.map_cons, List.map_nil, List.replicate, List.append_nil, List.cons_append, List.nil_append, Option.map_some, Option.map_none, Option.bind_some, Option.bind_none,
  List.getElem?_cons_zero, List.getElem?_cons_succ, List.set_cons_zero, List.set_cons_succ, Nat.reduceAdd, Nat.reduceSub, Nat.reduceEqDiff, if_true, if_false, ite_true, ite_false, reduceIte, decide_true, decide_false, reduceCtorEq, Bool.not_true, Bool.not_false, Bool.false_eq_true, Bool.true_eq_false, Bool.or_true, Bool.true_or, Bool.false_or, Bool.or_false, Bool.and_true, Bool.and_false, Bool.true_and, Bool.false_and, addI, subI, ltI, leI, gtI, geI, eqI, neI, E3.negI, ix_cell0, ix_cell1, E3.le0, E3.le1, E3.le2, E3.le3, E3.le4, E3.le5, E3.le6, beq_self_eq_true, Int.reduceBEq, E3.divmodI, E3.modI, E3.fdivI, E3.powL, E3.mulLL, E3.isi_bool_none, E3.isi_bool_bool, E3.isi_bool_int, E3.isi_bool_str, E3.isi_bool_list, E3.isi_bool_tuple, E3.isi_int_none, E3.isi_int_bool, E3.isi_int_int, E3.isi_int_str, E3.isi_int_list, E3.isi_int_tuple, E3.isi_str_none, E3.isi_str_bool, E3.isi_str_int, E3.isi_str_str, E3.isi_str_list, E3.isi_str_tuple, E3.isi_list_none, E3.isi_list_bool, E3.isi_list_int, E3.isi_list_str, E3.isi_list_list, E3.isi_list_tuple, E3.isi_tuple_none, E3.isi_tuple_bool, E3.isi_tuple_int, E3.isi_tuple_str, E3.isi_tuple_list, E3.isi_tuple_tuple, E3.isN_none, E3.ntN_none, E3.isN_bool, E3.ntN_bool, E3.isN_int, E3.ntN_int, E3.isN_str, E3.ntN_str, E3.isN_list, E3.ntN_list, E3.isN_tuple, E3.ntN_tuple, E3.len_list, E3.len_tup, E3.seq_list, E3.seq_tup, E3.tup_list, E3.tup_tup, E3.lst_list, E3.lst_tup, xM, xV, xB, xTB, x2, xAnd, xNil, xCons, xTup, xLst, xCall, xSl, xPotd, ownXd, potKd, ePotE, dropKV, fnPd, startPd, endPd, slL, eSlL, xPot, ownX, potK, XR.bind_ok, XR.bind_exc, XR.bind_stuck, XR.of_ok, XR.of_exc, XR.of_stuck, thenX_ok, thenX_exc, thenX_stuck, qSet, qRet, qIf, qAsg, qForR, qFor, H70.fR_i, H70.fR_b, H70.fR_ii, H70.fR_c, fnP, startP, endP, fnL, startL, endL, xPotL, xLast, fnN, endN, E3.ix_lst0, Int.cast_ofNat_Int, *])
open H70 H48
abbrev Pt := Int × Int
abbrev O := Option Slot
theorem crossed_q : D_crossed = H48.D_crossed D_holds_any := rfl
theorem deal_q : D_law_deal = H48.D_law_deal := rfl
theorem subset_q : D_law_subset = H48.D_law_subset := rfl
theorem is_q : D_law_is_sets = H48.D_law_is_sets := rfl
theorem less_q : D_law_less = H48.D_law_less := rfl
def HE : DS → Res D := (eLc (fun σ => ((eVar 4) σ).bind seqOf) (gN 3) [3] tYesD (e2 inG (eVar 3) (eVar 2)))
theorem ha_q : B_holds_any_1 = (sIf (E3.tAnd (tB (e2 ltD (eCall lenD (aCons (eVar 4) aNil)) (eCall lenD (aCons (eVar 0) aNil)))) (E3.tB (eCall allD (aCons HE aNil)))) (sRet (eC (.bool true))) sNil) := rfl
theorem he_ok (x0 x1 x3 : Option D) (kvs : List (D × D)) (one s : List Pt) (ho : obK kvs = false) (hk : ∀ p, hasK kvs (kOf p) = decide (p ∈ one)) (hl : s.length ≤ 10000) : HE [x0, x1, some (.dict kvs), x3, some (tupC s)] = .ok (.list (s.map fun p => PyData.bool (decide (p ∈ one)))) := by
  refine H80.lcG (e := cellD) (q := fun p => PyData.bool (decide (p ∈ one))) s rfl hl fun p _ => ?_
  have ky : keyOf (cellD p) = some (kOf p) := intsOf_map (kOf p)
  show inG (cellD p) (.dict kvs) = _
  rw [inG_dict ho ky, val_has, hk]
theorem ha_turn (E : DS → Res D) (od ld dd sd al : D) (x3 : O) (t a : Bool) (n m : Int) (h1 : lenD [sd] = .ok (.int n)) (h2 : lenD [od] = .ok (.int m)) (ht : t = decide (n < m)) (h3 : ∀ a3 : Option D, E [some od, some ld, some dd, a3, some sd] = .ok al) (h4 : allD [al] = .ok (.bool a)) : (sIf (E3.tAnd (tB (e2 ltD (eCall lenD (aCons (eVar 4) aNil)) (eCall lenD (aCons (eVar 0) aNil)))) (E3.tB (eCall allD (aCons E aNil)))) (sRet (eC (.bool true))) sNil) [some (.sh od), some (.sh ld), some (.sh dd), x3, some (.sh sd)] = if (t && a) = true then .ok (.rt (.bool true)) [some (.sh od), some (.sh ld), some (.sh dd), x3, some (.sh sd)] else .ok .nx [some (.sh od), some (.sh ld), some (.sh dd), x3, some (.sh sd)] := by
  generalize lenD = L at *
  generalize allD = A at *
  by_cases z : n < m
  · rw [ht, decide_eq_true z, Bool.true_and]
    cases a with
    | true =>
      rw [if_pos rfl]
      walk_at "ev"
      rw [h1]; walk_at "ev"
      rw [h2]; walk_at "ev"
      rw [decide_eq_true z]; walk_at "ev"
      rw [h3]; walk_at "ev"
      rw [h4]; walk_at "ev"
    | false =>
      rw [if_neg (by decide)]
      walk_at "ev"
      rw [h1]; walk_at "ev"
      rw [h2]; walk_at "ev"
      rw [decide_eq_true z]; walk_at "ev"
      rw [h3]; walk_at "ev"
      rw [h4]; walk_at "ev"
  · rw [ht, decide_eq_false z, Bool.false_and, if_neg (by decide)]
    walk_at "ev"
    rw [h1]; walk_at "ev"
    rw [h2]; walk_at "ev"
    rw [decide_eq_false z]; walk_at "ev"
theorem ha_turns (one : List Pt) (ld : D) (kvs : List (D × D)) (ho : obK kvs = false) (hk : ∀ p, hasK kvs (kOf p) = decide (p ∈ one)) : ∀ (F : List (List Pt)) (x3 x4 : O), (∀ s ∈ F, s.length ≤ 10000) →
    ((lessIn one F = true → ∃ σ, forS (gN 4) B_holds_any_1 (F.map tupC) [some (.sh (tupC one)), some (.sh ld), some (.sh (.dict kvs)), x3, x4] = .ok (.rt (.bool true)) σ) ∧ (lessIn one F = false → ∃ σ, forS (gN 4) B_holds_any_1 (F.map tupC) [some (.sh (tupC one)), some (.sh ld), some (.sh (.dict kvs)), x3, x4] = .ok .nx σ))
  | [], x3, x4, _ => ⟨fun e => (by cases e), fun _ => ⟨_, rfl⟩⟩
  | s :: F, x3, x4, hl => by
    have h := hl s List.mem_cons_self
    have e : lessIn one (s :: F) = ((decide (((s.length : Nat) : Int) < ((one.length : Nat) : Int)) && s.all fun x => decide (x ∈ one)) || lessIn one F) := by
      unfold lessIn
      rw [List.any_cons, show decide (s.length < one.length) = decide (((s.length : Nat) : Int) < ((one.length : Nat) : Int)) from decide_eq_decide.mpr (by omega)]
    have t := ha_turn HE (tupC one) ld (.dict kvs) (tupC s) _ x3 _ (s.all fun x => decide (x ∈ one)) ((s.length : Nat) : Int) ((one.length : Nat) : Int) (by show Res.ok (PyData.int (((s.map cellD).length : Nat) : Int)) = _; rw [List.length_map]) (by show Res.ok (PyData.int (((one.map cellD).length : Nat) : Int)) = _; rw [List.length_map]) rfl (fun a3 => he_ok _ _ a3 kvs one s ho hk h) (H80.all_in s fun x => decide (x ∈ one))
    rw [← ha_q] at t
    obtain ⟨i1, i2⟩ := ha_turns one ld kvs ho hk F x3 (some (.sh (tupC s))) fun a h => hl a (List.mem_cons_of_mem _ h)
    have pt : (gN 4) (tupC s) [some (.sh (tupC one)), some (.sh ld), some (.sh (.dict kvs)), x3, x4] = some [some (.sh (tupC one)), some (.sh ld), some (.sh (.dict kvs)), x3, some (.sh (tupC s))] := rfl
    rw [e, List.map_cons]
    cases z : (decide (((s.length : Nat) : Int) < ((one.length : Nat) : Int)) && s.all fun x => decide (x ∈ one)) with
    | true =>
      rw [z, if_pos rfl] at t
      exact ⟨fun _ => ⟨_, H80.forS_rt pt t⟩, fun e => (by rw [Bool.true_or] at e; cases e)⟩
    | false =>
      rw [z, if_neg (by decide)] at t
      rw [Bool.false_or]
      refine ⟨fun e => ?_, fun e => ?_⟩
      · obtain ⟨σ, f⟩ := i1 e
        exact ⟨σ, (forS_cons pt t).trans f⟩
      · obtain ⟨σ, f⟩ := i2 e
        exact ⟨σ, (forS_cons pt t).trans f⟩
theorem tt_ok (FF : SF) (od ld dd : D) (kd : List (D × D)) (hd : dd = .dict kd) (x3 : O) (b : Bool) (σ : SS) (h1 : b = true → FF [some (.sh od), some (.sh ld), some (.sh dd), x3, none] = .ok (.rt (.bool true)) σ) (h2 : b = false → FF [some (.sh od), some (.sh ld), some (.sh dd), x3, none] = .ok .nx σ) : ∃ τ, (sFreeze 2 (sSeq FF (sRet (eC (.bool false))))) [some (.sh od), some (.sh ld), some (.ow (.dict kd)), x3, none] = .ok (.rt (.bool b)) τ := by
  subst hd
  refine ⟨σ, ?_⟩
  cases b with
  | true =>
    have h1 := h1 rfl
    walk_at "ev"
    rw [h1]
  | false =>
    have h2 := h2 rfl
    walk_at "ev"
    rw [h2]
    try walk_at "ev"
    try rfl
theorem hh_fin (FF TT : SF) (a b d : D) (σ τ : SS) (f : FF [some (.sh a), some (.sh b), some (.ow (.dict [])), none, none] = .ok .nx σ) (t : TT σ = .ok (.rt d) τ) : fnD 5 2 (sSeq (sNew 2 (eC (.dict []))) (sSeq FF TT)) [a, b] = .ok d := by
  walk_at "ev"
  rw [f]; walk_at "ev"
  rw [t]
theorem holds_any_ok : HasAny D_holds_any := fun one sets h1 h2 h3 => by
  obtain ⟨σ', e, kvs, x3, ho, hk, hlen, rfl⟩ := forS_pre (p := gN 3) (body := sPut 2 (eVar 3) (eC (.bool true))) (g := cellD)
    (Inv := fun pre σ => ∃ (kvs : List (D × D)) (x3 : Option Slot), obK kvs = false ∧ (∀ p, hasK kvs (kOf p) = decide (p ∈ pre)) ∧ kvs.length ≤ pre.length ∧ σ = [some (.sh (tupC one)), some (.sh (.list (sets.map tupC))), some (.ow (.dict kvs)), x3, none]) one
    [some (.sh (tupC one)), some (.sh (.list (sets.map tupC))), some (.ow (.dict [])), none, none] ⟨[], none, rfl, fun p => by simp [hasK], Nat.le_refl _, rfl⟩ (by
      rintro pre x post σ he ⟨kvs, x3, ho, hk, hlen, rfl⟩
      have hn : one.length = pre.length + (post.length + 1) := by rw [he, List.length_append, List.length_cons]
      have hs : kvs.length < sizeLine := by have := sizeLine_eq; omega
      refine ⟨_, _, rfl, .inl ?_, putKD kvs (kOf x) (.bool true), some (.sh (cellD x)), ob_put _ _ ho, fun p => ?_, ?_, rfl⟩
      · have ky : keyOf (cellD x) = some (kOf x) := intsOf_map (kOf x)
        simp only [sPut, ownD, List.getElem?_cons_succ, List.getElem?_cons_zero, List.set_cons_succ, List.set_cons_zero, eC, thenR_ok, mask, List.map_cons, List.map_nil, eVar_succ, eVar_zero, Option.bind_some, Slot.shd, putS, ky, hs, if_true]
      · rw [has_put, hk]
        by_cases z : x = p
        · subst z; simp
        · have z2 : ¬ kOf x = kOf p := fun y => z (kOf_eq.mp y)
          have z3 : p ≠ x := fun y => z y.symm
          simp [z2, z3]
      · have := len_put kvs (kOf x) (.bool true)
        rw [List.length_append, List.length_singleton]; omega)
  have f1 : sFor I_holds_any_1 (gN 3) (sPut 2 (eVar 3) (eC (.bool true))) [some (.sh (tupC one)), some (.sh (.list (sets.map tupC))), some (.ow (.dict [])), none, none] = .ok .nx [some (.sh (tupC one)), some (.sh (.list (sets.map tupC))), some (.ow (.dict kvs)), x3, none] := by
    unfold sFor
    rw [show I_holds_any_1 (mask [some (.sh (tupC one)), some (.sh (.list (sets.map tupC))), some (.ow (.dict [])), none, none]) = .ok (one.map cellD) from rfl]
    exact e
  obtain ⟨i1, i2⟩ := ha_turns one (.list (sets.map tupC)) kvs ho hk sets x3 none h3
  have fo : ∀ r, forS (gN 4) B_holds_any_1 (sets.map tupC) [some (.sh (tupC one)), some (.sh (.list (sets.map tupC))), some (.sh (.dict kvs)), x3, none] = r → sFor I_holds_any_2 (gN 4) B_holds_any_1 [some (.sh (tupC one)), some (.sh (.list (sets.map tupC))), some (.sh (.dict kvs)), x3, none] = r := fun r h => by
    unfold sFor
    rw [show I_holds_any_2 (mask [some (.sh (tupC one)), some (.sh (.list (sets.map tupC))), some (.sh (.dict kvs)), x3, none]) = .ok (sets.map tupC) from rfl]
    exact h
  have ex : ∃ τ, T_holds_any_1 [some (.sh (tupC one)), some (.sh (.list (sets.map tupC))), some (.ow (.dict kvs)), x3, none] = .ok (.rt (.bool (lessIn one sets))) τ := by
    cases z : lessIn one sets with
    | true =>
      obtain ⟨σ, g⟩ := i1 z
      exact tt_ok _ _ _ _ kvs rfl x3 true σ (fun _ => fo _ g) fun h => by cases h
    | false =>
      obtain ⟨σ, g⟩ := i2 z
      exact tt_ok _ _ _ _ kvs rfl x3 false σ (fun h => by cases h) fun _ => fo _ g
  obtain ⟨τ, t⟩ := ex
  exact hh_fin _ _ _ _ _ _ _ f1 t
theorem cross_ok (sets : List (List Pt)) (hs : ∀ s ∈ sets, s.length ≤ 100) (x0 : D) (hx : seqOf x0 = .ok (sets.map tupC)) : D_crossed [x0] = match crossF [[]] sets with | some G => .ok (.list (G.map tupC)) | none => .exc tmX := by
  rw [crossed_q]
  exact crossed_ok _ holds_any_ok sets hs x0 hx
end K54
namespace K54
open PySem PySem.Spec PyProof.Rows L2 E3 
local macro_rules | `(tactic| walk_at "ev") => `(tactic| try simp (disch := first | decide | decide +kernel | omega) only [fnD, xOr, xNot, startF, endF, sSeq, sAsg, sSet, sSetV, sAsgV, sIf, sRet, sNew, sNewV, sMut, sMutV, sFor, sForR, sFreeze, sNil, sExpr, optK, thenR_ok, thenR_exc, thenR_stuck,
  view, mask, E3.eVar_zero, E3.eVar_succ, eC, e1, e2, eCall, eTup, eLst, eSl, oNone, oSome, eAnd, eOr, eIf, E3.tAnd, E3.tOr, E3.tNot, E3.tB, asB, notD, aNil, aCons, Res.bind_ok, Res.bind_exc, Res.bind_stuck,
  gT, gsCons, gsNil, gN, tupD, lstD, Slot.dat, Slot.shd, List.length_cons, List.length_nil, List.map_cons, List.map_nil, List.replicate, List.append_nil, List.cons_append, List.nil_append, Option.map_some, Option.map_none, Option.bind_some, Option.bind_none,
  List.getElem?_cons_zero, List.getElem?_cons_succ, List.set_cons_zero, List.set_cons_succ, Nat.reduceAdd, Nat.reduceSub, Nat.reduceEqDiff, if_true, if_false, ite_true, ite_false, reduceIte, decide_true, decide_false, reduceCtorEq, Bool.not_true, Bool.not_false, Bool.false_eq_true, Bool.true_eq_false, Bool.or_true, Bool.true_or, Bool.false_or, Bool.or_false, Bool.and_true, Bool.and_false, Bool.true_and, Bool.false_and, addI, subI, ltI, leI, gtI, geI, eqI, neI, E3.negI, ix_cell0, ix_cell1, E3.le0, E3.le1, E3.le2, E3.le3, E3.le4, E3.le5, E3.le6, beq_self_eq_true, Int.reduceBEq, E3.divmodI, E3.modI, E3.fdivI, E3.powL, E3.mulLL, E3.isi_bool_none, E3.isi_bool_bool, E3.isi_bool_int, E3.isi_bool_str, E3.isi_bool_list, E3.isi_bool_tuple, E3.isi_int_none, E3.isi_int_bool, E3.isi_int_int, E3.isi_int_str, E3.isi_int_list, E3.isi_int_tuple, E3.isi_str_none, E3.isi_str_bool, E3.isi_str_int, E3.isi_str_str, E3.isi_str_list, E3.isi_str_tuple, E3.isi_list_none, E3.isi_list_bool, E3.isi_list_int, E3.isi_list_str, E3.isi_list_list, E3.isi_list_tuple, E3.isi_tuple_none, E3.isi_tuple_bool, E3.isi_tuple_int, E3.isi_tuple_str, E3.isi_tuple_list, E3.isi_tuple_tuple, E3.isN_none, E3.ntN_none, E3.isN_bool, E3.ntN_bool, E3.isN_int, E3.ntN_int, E3.isN_str, E3.ntN_str, E3.isN_list, E3.ntN_list, E3.isN_tuple, E3.ntN_tuple, E3.len_list, E3.len_tup, E3.seq_list, E3.seq_tup, E3.tup_list, E3.tup_tup, E3.lst_list, E3.lst_tup, xM, xV, xB, xTB, x2, xAnd, xNil, xCons, xTup, xLst, xCall, xSl, xPotd, ownXd, potKd, ePotE, dropKV, fnPd, startPd, endPd, slL, eSlL, xPot, ownX, potK, XR.bind_ok, XR.bind_exc, XR.bind_stuck, XR.of_ok, XR.of_exc, XR.of_stuck, thenX_ok, thenX_exc, thenX_stuck, qSet, qRet, qIf, qAsg, qForR, qFor, H70.fR_i, H70.fR_b, H70.fR_ii, H70.fR_c, fnP, startP, endP, fnL, startL, endL, xPotL, xLast, fnN, endN, E3.ix_lst0, Int.cast_ofNat_Int])
local macro_rules | `(tactic| walk_at "evs") => `(tactic| try simp (disch := first | decide | decide +kernel | omega) only [fnD, xOr, xNot, startF, endF, sSeq, sAsg, sSet, sSetV, sAsgV, sIf, sRet, sNew, sNewV, sMut, sMutV, sFor, sForR, sFreeze, sNil, sExpr, optK, thenR_ok, thenR_exc, thenR_stuck,
  view, mask, E3.eVar_zero, E3.eVar_succ, eC, e1, e2, eCall, eTup, eLst, eSl, oNone, oSome, eAnd, eOr, eIf, E3.tAnd, E3.tOr, E3.tNot, E3.tB, asB, notD, aNil, aCons, Res.bind_ok, Res.bind_exc, Res.bind_stuck,
  gT, gsCons, gsNil, gN, tupD, lstD, Slot.dat, Slot.shd, List.length_cons, List.length_nil, List.map_cons, List.map_nil, List.replicate, List.append_nil, List.cons_append, List.nil_append, Option.map_some, Option.map_none, Option.bind_some, Option.bind_none,
  List.getElem?_cons_zero, List.getElem?_cons_succ, List.set_cons_zero, List.set_cons_succ, Nat.reduceAdd, Nat.reduceSub, Nat.reduceEqDiff, if_true, if_false, ite_true, ite_false, reduceIte, decide_true, decide_false, reduceCtorEq, Bool.not_true, Bool.not_false, Bool.false_eq_true, Bool.true_eq_false, Bool.or_true, Bool.true_or, Bool.false_or, Bool.or_false, Bool.and_true, Bool.and_false, Bool.true_and, Bool.false_and, addI, subI, ltI, leI, gtI, geI, eqI, neI, E3.negI, ix_cell0, ix_cell1, E3.le0, E3.le1, E3.le2, E3.le3, E3.le4, E3.le5, E3.le6, beq_self_eq_true, Int.reduceBEq, E3.divmodI, E3.modI, E3.fdivI, E3.powL, E3.mulLL, E3.isi_bool_none, E3.isi_bool_bool, E3.isi_bool_int, E3.isi_bool_str, E3.isi_bool_list, E3.isi_bool_tuple, E3.isi_int_none, E3.isi_int_bool, E3.isi_int_int, E3.isi_int_str, E3.isi_int_list, E3.isi_int_tuple, E3.isi_str_none, E3.isi_str_bool, E3.isi_str_int, E3.isi_str_str, E3.isi_str_list, E3.isi_str_tuple, E3.isi_list_none, E3.isi_list_bool, E3.isi_list_int, E3.isi_list_str, E3.isi_list_list, E3.isi_list_tuple, E3.isi_tuple_none, E3.isi_tuple_bool, E3.isi_tuple_int, E3.isi_tuple_str, E3.isi_tuple_list, E3.isi_tuple_tuple, E3.isN_none, E3.ntN_none, E3.isN_bool, E3.ntN_bool, E3.isN_int, E3.ntN_int, E3.isN_str, E3.ntN_str, E3.isN_list, E3.ntN_list, E3.isN_tuple, E3.ntN_tuple, E3.len_list, E3.len_tup, E3.seq_list, E3.seq_tup, E3.tup_list, E3.tup_tup, E3.lst_list, E3.lst_tup, xM, xV, xB, xTB, x2, xAnd, xNil, xCons, xTup, xLst, xCall, xSl, xPotd, ownXd, potKd, ePotE, dropKV, fnPd, startPd, endPd, slL, eSlL, xPot, ownX, potK, XR.bind_ok, XR.bind_exc, XR.bind_stuck, XR.of_ok, XR.of_exc, XR.of_stuck, thenX_ok, thenX_exc, thenX_stuck, qSet, qRet, qIf, qAsg, qForR, qFor, H70.fR_i, H70.fR_b, H70.fR_ii, H70.fR_c, fnP, startP, endP, fnL, startL, endL, xPotL, xLast, fnN, endN, E3.ix_lst0, Int.cast_ofNat_Int, *])
open H70 H48
theorem stv {i : Nat} {fk fv : DS → Res D} {σ : SS} {c : List D} {k v : D} (ho : σ[i]? = some (some (.ow (.list c)))) (h1 : fv (view σ) = .ok v) (f1 : flat v = true) (h2 : fk (view σ) = .ok k) (f2 : flat k = true) : sStoreV i fk fv σ = setIx i σ c k v := by
  unfold sStoreV ownL
  rw [ho]
  simp only [h1, thenR_ok, f1, if_true, h2, f2]
abbrev s8 (n : Int) (wd : D) (c : D) (acc : List D) (x4 x5 x6 x7 : O) : SS := [some (.sh (.int n)), some (.sh wd), some (.sh c), some (.ow (.list acc)), x4, x5, x6, x7]
def PUTS : SF := (sIf (tB (e2 eqD (eVar 6) (eC (.int 7)))) (sStoreV 3 (eVar 4) (eTup aNil)) sNil)
theorem st_q : B_law_sets_1 = (sSeq (sAsg (gT 2 (gsCons (gN 0) (gsCons (gN 5) gsNil))) (eCall divmodD (aCons (eVar 0) (aCons (eC (.int 64)) aNil))))
  (sSeq (sAsg (gT 2 (gsCons (gN 0) (gsCons (gN 6) gsNil))) (eCall divmodD (aCons (eVar 0) (aCons (eC (.int 8)) aNil))))
  (sSeq (sSet 7 (eCall D_law_subset (aCons (eVar 1) (aCons (eVar 5) aNil))))
  (sSeq (sMut 3 appendM (aCons (eSl (eVar 7) oNone (oSome (e2 addD (eC (.int 1)) (e2 modD (eVar 6) (eC (.int 4)))))) aNil))
  PUTS)))) := rfl
theorem puts_ok (n : Int) (wd c : D) (acc : List D) (d : D) (k : Int) (hk : k = (acc.length : Nat)) (x5 x7 : O) (v : Int) : PUTS (s8 n wd c (acc ++ [d]) (some (.sh (.int k))) x5 (some (.sh (.int v))) x7) = .ok .nx (s8 n wd c (acc ++ [if v = 7 then .tuple [] else d]) (some (.sh (.int k))) x5 (some (.sh (.int v))) x7) := by
  by_cases z : v = 7
  · rw [if_pos z]
    have st : sStoreV 3 (eVar 4) (eTup aNil) (s8 n wd c (acc ++ [d]) (some (.sh (.int k))) x5 (some (.sh (.int v))) x7) = .ok .nx (s8 n wd c (acc ++ [.tuple []]) (some (.sh (.int k))) x5 (some (.sh (.int v))) x7) := by
      rw [stv (c := acc ++ [d]) (k := .int k) (v := .tuple []) rfl rfl rfl rfl rfl]
      have ix : L2.ixN (acc ++ [d]).length k = some acc.length := by
        unfold L2.ixN
        rw [if_pos (by omega), if_pos (by rw [List.length_append, List.length_singleton]; omega)]
        rw [hk]; rfl
      show (match L2.ixN (acc ++ [d]).length k with
        | some n => _
        | none => _) = _
      rw [ix]
      show SR.ok .nx (s8 n wd c ((acc ++ [d]).set acc.length (.tuple [])) _ _ _ _) = _
      rw [List.set_append_right (i := acc.length) (h := Nat.le_refl _), Nat.sub_self]
      rfl
    unfold PUTS
    generalize sStoreV 3 (eVar 4) (eTup aNil) = ST at *
    simp only [s8] at st ⊢
    generalize acc ++ [d] = l1 at *
    generalize acc ++ [PyData.tuple []] = l2 at *
    walk_at "ev"
    rw [show (v == 7) = true by simpa using z]
    walk_at "ev"
    exact st
  · rw [if_neg z]
    unfold PUTS
    generalize sStoreV 3 (eVar 4) (eTup aNil) = ST at *
    simp only [s8]
    generalize acc ++ [d] = l1 at *
    walk_at "ev"
    rw [show (v == 7) = false by simpa using z]
    walk_at "ev"
theorem st_walk (SB : List D → Res D) (PT : SF) (n n1 n2 bi v k : Int) (wd c t1 t2 : D) (l0 : List D) (x5 x6 x7 : O) (r : SR) (u0 : n % 64 = bi) (u1 : n / 64 = n1) (u2 : n1 / 8 = n2) (u3 : n1 % 8 = v) (sb : SB [wd, .int bi] = .ok t1) (cut : slD t1 none (some (1 + v % 4)) = .ok t2) (hl : l0.length < 1000000) (pu : PT (s8 n2 wd c (l0 ++ [t2]) (some (.sh (.int k))) (some (.sh (.int bi))) (some (.sh (.int v))) (some (.sh t1))) = r) : (sSeq (sAsg (gT 2 (gsCons (gN 0) (gsCons (gN 5) gsNil))) (eCall divmodD (aCons (eVar 0) (aCons (eC (.int 64)) aNil))))
  (sSeq (sAsg (gT 2 (gsCons (gN 0) (gsCons (gN 6) gsNil))) (eCall divmodD (aCons (eVar 0) (aCons (eC (.int 8)) aNil))))
  (sSeq (sSet 7 (eCall SB (aCons (eVar 1) (aCons (eVar 5) aNil))))
  (sSeq (sMut 3 appendM (aCons (eSl (eVar 7) oNone (oSome (e2 addD (eC (.int 1)) (e2 modD (eVar 6) (eC (.int 4)))))) aNil))
  PT)))) (s8 n wd c l0 (some (.sh (.int k))) x5 x6 x7) = r := by
  have d1 := divmodI (i := n) (j := 64) (by decide) (by decide)
  have d2 := divmodI (i := n1) (j := 8) (by decide) (by decide)
  have m4 : modD (.int v) (.int 4) = .ok (.int (v % 4)) := modI (by decide)
  have ap : appendM l0 [t2] = some (.none, l0 ++ [t2]) := app_any hl
  simp only [s8] at pu ⊢
  generalize l0 ++ [t2] = l1 at *
  walk_at "ev"
  try (rw [d1]; walk_at "ev")
  try (rw [d2]; walk_at "ev")
  try simp only [u0, u1, u2, u3]
  rw [sb]; walk_at "ev"
  try simp only [ownL, List.getElem?_cons_zero, List.getElem?_cons_succ]
  try walk_at "ev"
  try (rw [m4]; walk_at "ev")
  try simp only [u0, u1, u2, u3]
  rw [cut]; walk_at "ev"
  rw [ap]
  try simp only [mutK, List.getElem?_cons_zero, List.getElem?_cons_succ]
  try walk_at "ev"
  exact pu
theorem set_turn (w : List Pt) (hw : w.length = 6) (c : D) (n : Int) (hn : 0 ≤ n) (F : List (List Pt)) (hF : F.length ≤ 10) (k : Int) (hk : k = (F.length : Nat)) (x5 x6 x7 : O) : ∃ (n' : Int) (s : List Pt) (y5 y6 y7 : O), 0 ≤ n' ∧ (Sub s w ∧ s.length ≤ 6) ∧ B_law_sets_1 (s8 n (.list (w.map cellD)) c (F.map tupC) (some (.sh (.int k))) x5 x6 x7) = .ok .nx (s8 n' (.list (w.map cellD)) c ((F ++ [s]).map tupC) (some (.sh (.int k))) y5 y6 y7) := by
  have d1 := divmodI (i := n) (j := 64) (by decide) (by decide)
  have r1 : 0 ≤ n % 64 ∧ n % 64 < 64 := by omega
  have h1 : 0 ≤ n / 64 := by omega
  generalize e1 : n / 64 = n1 at *
  obtain ⟨b, hb⟩ : ∃ b : Nat, n % 64 = (b : Nat) := ⟨(n % 64).toNat, by omega⟩
  generalize e0 : n % 64 = bi at *
  have d2 := divmodI (i := n1) (j := 8) (by decide) (by decide)
  have r2 : 0 ≤ n1 % 8 ∧ n1 % 8 < 8 := by omega
  have h2 : 0 ≤ n1 / 8 := by omega
  generalize e2' : n1 / 8 = n2 at *
  generalize e3 : n1 % 8 = v at *
  have sb := subset_ok w b (by omega)
  rw [← subset_q, ← hb] at sb
  have sl := subB_sub w b
  have m4 : modD (.int v) (.int 4) = .ok (.int (v % 4)) := modI (by decide)
  have r3 : 0 ≤ v % 4 ∧ v % 4 < 4 := by omega
  obtain ⟨q, hq⟩ : ∃ q : Nat, 1 + v % 4 = (q : Nat) := ⟨(1 + v % 4).toNat, by omega⟩
  have cut : slD (tupC (subB w b)) none (some (1 + v % 4)) = .ok (tupC ((subB w b).take q)) := by
    rw [hq]
    show Res.ok (PyData.tuple (E3.cutD ((subB w b).map cellD) none (some ((q : Nat) : Int)))) = _
    rw [H6.cut_take, ← List.map_take]
    rfl
  have ap : appendM (F.map tupC) [tupC ((subB w b).take q)] = some (.none, F.map tupC ++ [tupC ((subB w b).take q)]) := app_any (by rw [List.length_map]; omega)
  have pu := fun (a5 a7 : O) => puts_ok n2 (.list (w.map cellD)) c (F.map tupC) (tupC ((subB w b).take q)) k (by rw [List.length_map]; exact hk) a5 a7 v
  refine ⟨n2, if v = 7 then [] else (subB w b).take q, some (.sh (.int bi)), some (.sh (.int v)), some (.sh (tupC (subB w b))), h2, ?_, ?_⟩
  · split
    · exact ⟨fun x h => (by cases h), Nat.zero_le _⟩
    · refine ⟨fun x h => sl x (List.mem_of_mem_take h), ?_⟩
      have e1 : (subB w b).length ≤ w.length := by
        have : ∀ (w : List Pt) (b : Nat), (H48.subB w b).length ≤ w.length := by
          intro w
          induction w with
          | nil => intro b; exact Nat.le_refl _
          | cons x w ih =>
            intro b
            unfold H48.subB
            split
            · rw [List.length_cons, List.length_cons]; have := ih (b / 2); omega
            · rw [List.length_cons]; have := ih (b / 2); omega
        exact this w b
      rw [List.length_take]
      omega
  · have e : ((F ++ [if v = 7 then [] else (subB w b).take q]).map tupC) = F.map tupC ++ [if v = 7 then .tuple [] else tupC ((subB w b).take q)] := by
      rw [List.map_append, List.map_cons, List.map_nil]
      by_cases z : v = 7
      · rw [if_pos z, if_pos z]; rfl
      · rw [if_neg z, if_neg z]
    rw [e, st_q]
    exact st_walk D_law_subset PUTS n n1 n2 bi v k _ c _ _ _ x5 x6 x7 _ e0 e1 e2' e3 sb cut (by rw [List.length_map]; omega) (pu _ _)
theorem set_turns (w : List Pt) (hw : w.length = 6) (c : D) : ∀ (m : Nat) (n : Int) (F : List (List Pt)) (x4 x5 x6 x7 : O), 0 ≤ n → F.length + m ≤ 10 → (∀ s ∈ F, Sub s w ∧ s.length ≤ 6) → ∃ (n' : Int) (F' : List (List Pt)) (y4 y5 y6 y7 : O), 0 ≤ n' ∧ (∀ s ∈ F', Sub s w ∧ s.length ≤ 6) ∧ F'.length = F.length + m ∧ forS (gN 4) B_law_sets_1 ((List.range' F.length m).map fun (i : Nat) => PyData.int (i : Int)) (s8 n (.list (w.map cellD)) c (F.map tupC) x4 x5 x6 x7) = .ok .nx (s8 n' (.list (w.map cellD)) c (F'.map tupC) y4 y5 y6 y7)
  | 0, n, F, x4, x5, x6, x7, hn, _, hs => ⟨n, F, x4, x5, x6, x7, hn, hs, rfl, rfl⟩
  | m + 1, n, F, x4, x5, x6, x7, hn, hl, hs => by
    obtain ⟨n1, s, z5, z6, z7, h1, p1, e1⟩ := set_turn w hw c n hn F (by omega) ((F.length : Nat) : Int) rfl x5 x6 x7
    obtain ⟨n2, F2, y4, y5, y6, y7, h2, p2, l2, e2⟩ := set_turns w hw c m n1 (F ++ [s]) (some (.sh (.int ((F.length : Nat) : Int)))) z5 z6 z7 h1 (by rw [List.length_append, List.length_singleton]; omega) fun t ht => by
      rcases List.mem_append.mp ht with h | h
      · exact hs t h
      · rw [List.mem_singleton.mp h]; exact p1
    rw [List.length_append, List.length_singleton] at e2 l2
    refine ⟨n2, F2, y4, y5, y6, y7, h2, p2, by omega, ?_⟩
    rw [List.range'_succ, List.map_cons]
    exact (forS_cons (p := gN 4) (σ1 := s8 n (.list (w.map cellD)) c (F.map tupC) (some (.sh (.int ((F.length : Nat) : Int)))) x5 x6 x7) rfl e1).trans e2
theorem sets_q : D_law_sets = fnD 8 2 (sSeq (sAsg (gT 2 (gsCons (gN 0) (gsCons (gN 2) gsNil))) (eCall divmodD (aCons (eVar 0) (aCons (eC (.int 6)) aNil))))
  (sSeq (sNew 3 (eLst aNil)) (sSeq (sFor I_law_sets_1 (gN 4) B_law_sets_1) T_law_sets_1))) := rfl
theorem sets_fin (FF TT : SF) (n : Int) (wd d : D) (σ τ : SS) (f : FF [some (.sh (.int (n / 6))), some (.sh wd), some (.sh (.int (n % 6))), some (.ow (.list [])), none, none, none, none] = .ok .nx σ) (t : TT σ = .ok (.rt d) τ) : fnD 8 2 (sSeq (sAsg (gT 2 (gsCons (gN 0) (gsCons (gN 2) gsNil))) (eCall divmodD (aCons (eVar 0) (aCons (eC (.int 6)) aNil)))) (sSeq (sNew 3 (eLst aNil)) (sSeq FF TT))) [.int n, wd] = .ok d := by
  have d1 := divmodI (i := n) (j := 6) (by decide) (by decide)
  walk_at "ev"
  try (rw [d1]; walk_at "ev")
  rw [f]; walk_at "ev"
  rw [t]
theorem sets_it (RG : List D → Res (List D)) (nd wd md : D) (ks : List D) (rg : RG [md] = .ok ks) : (fun σ => ((aCons (eVar 2) aNil) σ).bind RG) (mask [some (.sh nd), some (.sh wd), some (.sh md), some (.ow (.list [])), none, none, none, none]) = .ok ks := rg
theorem sets_for (it : DS → Res (List D)) (B : SF) (σ : SS) (ks : List D) (h : it (mask σ) = .ok ks) (r : SR) (e : forS (gN 4) B ks σ = r) : sFor it (gN 4) B σ = r := by
  unfold sFor
  rw [h]
  exact e
theorem sets_ok (w : List Pt) (hw : w.length = 6) (n : Int) (hn : 0 ≤ n) : ∃ (n' : Int) (F : List (List Pt)), 0 ≤ n' ∧ (∀ s ∈ F, Sub s w ∧ s.length ≤ 6) ∧ F.length ≤ 5 ∧ D_law_sets [.int n, .list (w.map cellD)] = .ok (.tuple [.int n', .list (F.map tupC)]) := by
  obtain ⟨m, hm⟩ : ∃ m : Nat, n % 6 = (m : Nat) := ⟨(n % 6).toNat, by omega⟩
  obtain ⟨n', F, y4, y5, y6, y7, h1, h2, h3, e⟩ := set_turns w hw (.int (n % 6)) m (n / 6) [] none none none none (by omega) (by show 0 + m ≤ 10; omega) fun s h => by cases h
  have l5 : F.length ≤ 5 := by rw [h3]; show 0 + m ≤ 5; omega
  refine ⟨n', F, h1, h2, l5, ?_⟩
  rw [sets_q]
  refine sets_fin _ _ n _ _ (s8 n' (.list (w.map cellD)) (.int (n % 6)) (F.map tupC) y4 y5 y6 y7) [some (.sh (.int n')), some (.sh (.list (w.map cellD))), some (.sh (.int (n % 6))), some (.sh (.list (F.map tupC))), y4, y5, y6, y7] ?_ ?_
  · have rg := rng_k hm (by omega)
    rw [List.range_eq_range'] at rg
    exact sets_for _ _ _ _ (sets_it rng1 _ _ _ _ rg) _ e
  · unfold T_law_sets_1
    simp only [s8]
    generalize F.map tupC = l0 at *
    walk_at "ev"
    try rfl
def AN : DS → Res D := (eLc (fun σ => ((eVar 5) σ).bind seqOf) (gN 7) [7] tYesD (e2 inG (eVar 7) (eVar 6)))
def AL : DS → Res D := (eLc (fun σ => ((eVar 0) σ).bind seqOf) (gN 6) [6] tYesD (eCall anyD (aCons AN aNil)))
def hitB (sets : List (List Pt)) (a : List Pt) : Bool := sets.all fun s => a.any fun x => decide (x ∈ s)
theorem hitB_iff {sets : List (List Pt)} {a : List Pt} : hitB sets a = true ↔ hits sets a := by
  unfold hitB hits
  rw [List.all_eq_true]
  constructor
  · intro h s hs
    obtain ⟨x, x1, x2⟩ := List.any_eq_true.mp (h s hs)
    exact ⟨x, x1, of_decide_eq_true x2⟩
  · intro h s hs
    obtain ⟨x, x1, x2⟩ := h s hs
    exact List.any_eq_true.mpr ⟨x, x1, decide_eq_true x2⟩
theorem an_ok (x0 x1 x2 x3 x4 x7 : Option D) (a s : List Pt) (hl : a.length ≤ 10000) : AN [x0, x1, x2, x3, x4, some (tupC a), some (tupC s), x7] = .ok (.list (a.map fun x => PyData.bool (decide (x ∈ s)))) :=
  H80.lcG (e := cellD) (q := fun x => PyData.bool (decide (x ∈ s))) a rfl hl fun p _ => E3.in_cells p s
theorem al_el (E : DS → Res D) (x0 x1 x2 x3 x4 x5 x6 x7 : Option D) (al r : D) (h : E [x0, x1, x2, x3, x4, x5, x6, x7] = .ok al) (k : anyD [al] = .ok r) : (eCall anyD (aCons E aNil)) [x0, x1, x2, x3, x4, x5, x6, x7] = .ok r := by
  simp only [eCall, aCons, aNil, h, Res.bind_ok, k]
theorem al_ok (x1 x2 x3 x4 x6 x7 : Option D) (sets : List (List Pt)) (a : List Pt) (hs : sets.length ≤ 10000) (hl : a.length ≤ 10000) : AL [some (.list (sets.map tupC)), x1, x2, x3, x4, some (tupC a), x6, x7] = .ok (.list (sets.map fun s => PyData.bool (a.any fun x => decide (x ∈ s)))) :=
  H80.lcG (e := tupC) (q := fun s => PyData.bool (a.any fun x => decide (x ∈ s))) sets rfl hs fun s _ => al_el AN _ _ _ _ _ _ _ _ _ _ (an_ok _ _ _ _ _ x7 a s hl) (H80.any_in a fun x => decide (x ∈ s))
theorem all_of (sets : List (List Pt)) (g : List Pt → Bool) : allD [.list (sets.map fun s => PyData.bool (g s))] = .ok (.bool (sets.all g)) := by
  have := all_bools (sets.map g)
  rw [List.map_map] at this
  rw [show (sets.map fun s => PyData.bool (g s)) = sets.map (PyData.bool ∘ g) from rfl, this, List.all_map]
  rfl
abbrev s8d (sd wd : D) (good : List D) (found : List D) (x4 x5 x6 x7 : O) : SS := [some (.sh sd), some (.sh wd), some (.ow (.list good)), some (.ow (.list found)), x4, x5, x6, x7]
def DUE1 : SF := (sIf (E3.tAnd (E3.tB (e2 ixD (eVar 2) (eVar 4))) (E3.tNot (E3.tB (eCall D_law_less (aCons (eVar 2) (aCons (eVar 4) (aCons (eC (.int 6)) aNil))))))) (sMut 3 appendM (aCons (eVar 5) aNil)) sNil)
theorem due_q : B_law_due_1 = (sSeq (sSet 5 (eCall D_law_subset (aCons (eVar 1) (aCons (eVar 4) aNil))))
  (sSeq (sMut 2 appendM (aCons (eCall allD (aCons AL aNil)) aNil)) DUE1)) := rfl
theorem due1_ok (Le : List D → Res D) (sd wd : D) (gl fl : List D) (b : Int) (t : D) (g l : Bool) (x6 x7 : O) (h1 : ixD (.list gl) (.int b) = .ok (.bool g)) (h2 : Le [.list gl, .int b, .int 6] = .ok (.bool l)) (hl : fl.length < 1000000) : (sIf (E3.tAnd (E3.tB (e2 ixD (eVar 2) (eVar 4))) (E3.tNot (E3.tB (eCall Le (aCons (eVar 2) (aCons (eVar 4) (aCons (eC (.int 6)) aNil))))))) (sMut 3 appendM (aCons (eVar 5) aNil)) sNil) (s8d sd wd gl fl (some (.sh (.int b))) (some (.sh t)) x6 x7) = .ok .nx (s8d sd wd gl (if (g && !l) = true then fl ++ [t] else fl) (some (.sh (.int b))) (some (.sh t)) x6 x7) := by
  have ap : appendM fl [t] = some (.none, fl ++ [t]) := app_any hl
  simp only [s8d]
  cases g with
  | false =>
    rw [if_neg (by rw [Bool.false_and]; exact Bool.false_ne_true)]
    walk_at "ev"
    rw [h1]; walk_at "ev"
  | true =>
    cases l with
    | true =>
      rw [if_neg (by decide)]
      walk_at "ev"
      rw [h1]; walk_at "ev"
      rw [h2]; walk_at "ev"
    | false =>
      rw [if_pos (by decide)]
      generalize fl ++ [t] = l2 at *
      walk_at "ev"
      rw [h1]; walk_at "ev"
      rw [h2]; walk_at "ev"
      try simp only [ownL, List.getElem?_cons_zero, List.getElem?_cons_succ]
      try walk_at "ev"
      rw [ap]
      try simp only [mutK, List.getElem?_cons_zero, List.getElem?_cons_succ]
      try walk_at "ev"
      try rfl
theorem due_pre (Sb : List D → Res D) (E : DS → Res D) (D1 : SF) (sd wd t al : D) (gl fl : List D) (b : Int) (g : Bool) (x5 x6 x7 : O) (r : SR) (h1 : Sb [wd, .int b] = .ok t) (h2 : ∀ a2 a3 a4 a6 a7 : Option D, E [some sd, some wd, a2, a3, a4, some t, a6, a7] = .ok al) (h3 : allD [al] = .ok (.bool g)) (hl : gl.length < 1000000) (k : D1 (s8d sd wd (gl ++ [.bool g]) fl (some (.sh (.int b))) (some (.sh t)) x6 x7) = r) : (sSeq (sSet 5 (eCall Sb (aCons (eVar 1) (aCons (eVar 4) aNil)))) (sSeq (sMut 2 appendM (aCons (eCall allD (aCons E aNil)) aNil)) D1)) (s8d sd wd gl fl (some (.sh (.int b))) x5 x6 x7) = r := by
  have ap : appendM gl [.bool g] = some (.none, gl ++ [.bool g]) := app_any hl
  simp only [s8d] at k ⊢
  generalize gl ++ [PyData.bool g] = g2 at *
  generalize allD = A at *
  walk_at "ev"
  rw [h1]; walk_at "ev"
  try simp only [ownL, List.getElem?_cons_zero, List.getElem?_cons_succ]
  try walk_at "ev"
  rw [h2]; walk_at "ev"
  rw [h3]; walk_at "ev"
  rw [ap]
  try simp only [mutK, List.getElem?_cons_zero, List.getElem?_cons_succ]
  try walk_at "ev"
  exact k
def goodL (sets : List (List Pt)) (w : List Pt) (n : Nat) : List D := (List.range n).map fun b => PyData.bool (hitB sets (subB w b))
theorem goodL_succ (sets : List (List Pt)) (w : List Pt) (n : Nat) : goodL sets w (n + 1) = goodL sets w n ++ [.bool (hitB sets (subB w n))] := by
  unfold goodL
  rw [List.range_succ, List.map_append]
  rfl
theorem goodL_at (sets : List (List Pt)) (w : List Pt) {n k : Nat} (h : k < n) : (goodL sets w n)[k]? = some (.bool (hitB sets (subB w k))) := by
  unfold goodL
  rw [List.getElem?_map, List.getElem?_range h]
  rfl
def foundL (sets : List (List Pt)) (w : List Pt) (n : Nat) : List (List Pt) := ((List.range n).filter fun b => hitB sets (subB w b) && !lessB (fun b => hitB sets (subB w b)) b 6).map (subB w)
theorem due_turn (sets : List (List Pt)) (w : List Pt) (hw : w.length ≤ 1000) (hs : sets.length ≤ 10000) (b : Nat) (hb : b < 1000) (x5 x6 x7 : O) : ∃ y5, B_law_due_1 (s8d (.list (sets.map tupC)) (.list (w.map cellD)) (goodL sets w b) ((foundL sets w b).map tupC) (some (.sh (.int ((b : Nat) : Int)))) x5 x6 x7) = .ok .nx (s8d (.list (sets.map tupC)) (.list (w.map cellD)) (goodL sets w (b + 1)) ((foundL sets w (b + 1)).map tupC) (some (.sh (.int ((b : Nat) : Int)))) y5 x6 x7) := by
  have sb := subset_ok w b hw
  rw [← subset_q] at sb
  have sl : (subB w b).length ≤ w.length := by
    have : ∀ (w : List Pt) (b : Nat), (H48.subB w b).length ≤ w.length := by
      intro w
      induction w with
      | nil => intro b; exact Nat.le_refl _
      | cons x w ih =>
        intro b
        unfold H48.subB
        split
        · rw [List.length_cons, List.length_cons]; have := ih (b / 2); omega
        · rw [List.length_cons]; have := ih (b / 2); omega
    exact this w b
  have le := less_ok (goodL sets w (b + 1)) (fun b => hitB sets (subB w b)) b 6 (by decide) (fun k z => ⟨bit_le z, goodL_at sets w (by have := Nat.pow_pos (n := k) (show 0 < 2 by decide); omega)⟩) ((b : Nat) : Int) 6 rfl rfl
  rw [← less_q] at le
  have ix : ixD (.list (goodL sets w (b + 1))) (.int ((b : Nat) : Int)) = .ok (.bool (hitB sets (subB w b))) := (ix_at (goodL_at sets w (Nat.lt_succ_self b))).2
  have lf : ((foundL sets w b).map tupC).length < 1000000 := by
    unfold foundL
    rw [List.length_map, List.length_map]
    have := List.length_filter_le (fun b => hitB sets (subB w b) && !lessB (fun b => hitB sets (subB w b)) b 6) (List.range b)
    rw [List.length_range] at this
    omega
  have lg : (goodL sets w b).length < 1000000 := by unfold goodL; rw [List.length_map, List.length_range]; omega
  have d1 := due1_ok D_law_less (.list (sets.map tupC)) (.list (w.map cellD)) (goodL sets w (b + 1)) ((foundL sets w b).map tupC) ((b : Nat) : Int) (tupC (subB w b)) _ _ x6 x7 ix le lf
  have ef : (if (hitB sets (subB w b) && !lessB (fun b => hitB sets (subB w b)) b 6) = true then (foundL sets w b).map tupC ++ [tupC (subB w b)] else (foundL sets w b).map tupC) = (foundL sets w (b + 1)).map tupC := by
    unfold foundL
    rw [List.range_succ, List.filter_append, List.map_append, List.map_append]
    by_cases z : (hitB sets (subB w b) && !lessB (fun b => hitB sets (subB w b)) b 6) = true
    · rw [if_pos z, List.filter_cons, if_pos z]; rfl
    · rw [if_neg z, List.filter_cons, if_neg z]
      show _ = _ ++ []
      rw [List.append_nil]
  rw [ef, goodL_succ] at d1
  rw [goodL_succ, due_q]
  exact ⟨some (.sh (tupC (subB w b))), due_pre D_law_subset AL DUE1 _ _ _ _ _ _ _ _ x5 x6 x7 _ sb (fun a2 a3 a4 a6 a7 => al_ok _ a2 a3 a4 a6 a7 sets (subB w b) hs (by omega)) (all_of sets fun s => (subB w b).any fun x => decide (x ∈ s)) lg d1⟩
theorem due_turns (sets : List (List Pt)) (w : List Pt) (hw : w.length ≤ 1000) (hs : sets.length ≤ 10000) : ∀ (m b : Nat) (x4 x5 x6 x7 : O), b + m ≤ 1000 → ∃ y4 y5, forS (gN 4) B_law_due_1 ((List.range' b m).map fun (i : Nat) => PyData.int (i : Int)) (s8d (.list (sets.map tupC)) (.list (w.map cellD)) (goodL sets w b) ((foundL sets w b).map tupC) x4 x5 x6 x7) = .ok .nx (s8d (.list (sets.map tupC)) (.list (w.map cellD)) (goodL sets w (b + m)) ((foundL sets w (b + m)).map tupC) y4 y5 x6 x7)
  | 0, b, x4, x5, x6, x7, _ => ⟨x4, x5, rfl⟩
  | m + 1, b, x4, x5, x6, x7, h => by
    obtain ⟨z5, e⟩ := due_turn sets w hw hs b (by omega) x5 x6 x7
    obtain ⟨y4, y5, f⟩ := due_turns sets w hw hs m (b + 1) (some (.sh (.int ((b : Nat) : Int)))) z5 x6 x7 (by omega)
    rw [show b + 1 + m = b + (m + 1) by omega] at f
    rw [List.range'_succ, List.map_cons]
    exact ⟨y4, y5, (forS_cons (p := gN 4) (σ1 := s8d (.list (sets.map tupC)) (.list (w.map cellD)) (goodL sets w b) ((foundL sets w b).map tupC) (some (.sh (.int ((b : Nat) : Int)))) x5 x6 x7) rfl e).trans f⟩
theorem ldue_q : D_law_due = fnD 8 2 (sSeq (sNew 2 (eLst aNil)) (sSeq (sNew 3 (eLst aNil)) (sSeq (sFor I_law_due_1 (gN 4) B_law_due_1) T_law_due_1))) := rfl
theorem ldue_fin (FF TT : SF) (a b d : D) (σ τ : SS) (f : FF [some (.sh a), some (.sh b), some (.ow (.list [])), some (.ow (.list [])), none, none, none, none] = .ok .nx σ) (t : TT σ = .ok (.rt d) τ) : fnD 8 2 (sSeq (sNew 2 (eLst aNil)) (sSeq (sNew 3 (eLst aNil)) (sSeq FF TT))) [a, b] = .ok d := by
  walk_at "ev"
  rw [f]; walk_at "ev"
  rw [t]
theorem rng64 : rng1 [.int 64] = .ok ((List.range' 0 64).map fun (i : Nat) => PyData.int (i : Int)) := by
  have := rng_k (n := 64) (k := 64) rfl (by decide)
  rw [List.range_eq_range'] at this
  exact this
theorem tdue_ok (sd wd : D) (gl : List D) (F : List (List Pt)) (hl : F.length ≤ 100000) (x4 x5 x6 x7 : O) : ∃ τ, T_law_due_1 (s8d sd wd gl (F.map tupC) x4 x5 x6 x7) = .ok (.rt (.list ((srtS F).map tupC))) τ := by
  have so := sorted_sets F hl
  refine ⟨[some (.sh sd), some (.sh wd), some (.sh (.list gl)), some (.sh (.list (F.map tupC))), x4, x5, x6, x7], ?_⟩
  unfold T_law_due_1
  simp only [s8d]
  generalize F.map tupC = l1 at *
  generalize (srtS F).map tupC = l2 at *
  walk_at "ev"
  rw [so]; walk_at "ev"
  try rfl
theorem due_for (sets : List (List Pt)) (w : List Pt) (hw : w.length ≤ 1000) (hs : sets.length ≤ 10000) (N : Nat) (hN : N ≤ 1000) (it : DS → Res (List D)) (h : it (mask (s8d (.list (sets.map tupC)) (.list (w.map cellD)) [] [] none none none none)) = .ok ((List.range' 0 N).map fun (i : Nat) => PyData.int (i : Int))) : ∃ y4 y5, sFor it (gN 4) B_law_due_1 (s8d (.list (sets.map tupC)) (.list (w.map cellD)) [] [] none none none none) = .ok .nx (s8d (.list (sets.map tupC)) (.list (w.map cellD)) (goodL sets w N) ((foundL sets w N).map tupC) y4 y5 none none) := by
  obtain ⟨y4, y5, e⟩ := due_turns sets w hw hs N 0 none none none none (by omega)
  rw [Nat.zero_add] at e
  refine ⟨y4, y5, ?_⟩
  unfold sFor
  rw [h]
  exact e
theorem due_it (RG : List D → Res (List D)) (ks : List D) (σ : DS) (rg : RG [.int 64] = .ok ks) : (fun σ => ((aCons (eC (.int 64)) aNil) σ).bind RG) σ = .ok ks := rg
theorem ldue_ok (sets : List (List Pt)) (w : List Pt) (hw : w.length = 6) (hs : sets.length ≤ 10000) : D_law_due [.list (sets.map tupC), .list (w.map cellD)] = .ok (.list ((srtS (dueB w fun b => hitB sets (subB w b))).map tupC)) := by
  obtain ⟨N, hN⟩ : ∃ N : Nat, N = 64 := ⟨_, rfl⟩
  have rg : rng1 [.int 64] = .ok ((List.range' 0 N).map fun (i : Nat) => PyData.int (i : Int)) := by rw [hN]; exact rng64
  obtain ⟨y4, y5, f⟩ := due_for sets w (by omega) hs N (by omega) I_law_due_1 (due_it rng1 _ _ rg)
  have ed : foundL sets w N = dueB w fun b => hitB sets (subB w b) := by
    unfold foundL dueB
    rw [hw, hN]
  have ld : (dueB w fun b => hitB sets (subB w b)).length ≤ 100000 := by
    rw [← ed]
    unfold foundL
    rw [List.length_map]
    have := List.length_filter_le (fun b => hitB sets (subB w b) && !lessB (fun b => hitB sets (subB w b)) b 6) (List.range N)
    rw [List.length_range] at this
    omega
  rw [ed] at f
  obtain ⟨τ, t⟩ := tdue_ok (.list (sets.map tupC)) (.list (w.map cellD)) (goodL sets w N) _ ld y4 y5 none none
  rw [ldue_q]
  exact ldue_fin _ _ _ _ _ _ _ f t
end K54
namespace K54
open PySem PySem.Spec PyProof.Rows L2 E3 
local macro_rules | `(tactic| walk_at "ev") => `(tactic| try simp (disch := first | decide | decide +kernel | omega) only [fnD, xOr, xNot, startF, endF, sSeq, sAsg, sSet, sSetV, sAsgV, sIf, sRet, sNew, sNewV, sMut, sMutV, sFor, sForR, sFreeze, sNil, sExpr, optK, thenR_ok, thenR_exc, thenR_stuck,
  view, mask, E3.eVar_zero, E3.eVar_succ, eC, e1, e2, eCall, eTup, eLst, eSl, oNone, oSome, eAnd, eOr, eIf, E3.tAnd, E3.tOr, E3.tNot, E3.tB, asB, notD, aNil, aCons, Res.bind_ok, Res.bind_exc, Res.bind_stuck,
  gT, gsCons, gsNil, gN, tupD, lstD, Slot.dat, Slot.shd, List.length_cons, List.length_nil, List.map_cons, List.map_nil, List.replicate, List.append_nil, List.cons_append, List.nil_append, Option.map_some, Option.map_none, Option.bind_some, Option.bind_none,
  List.getElem?_cons_zero, List.getElem?_cons_succ, List.set_cons_zero, List.set_cons_succ, Nat.reduceAdd, Nat.reduceSub, Nat.reduceEqDiff, if_true, if_false, ite_true, ite_false, reduceIte, decide_true, decide_false, reduceCtorEq, Bool.not_true, Bool.not_false, Bool.false_eq_true, Bool.true_eq_false, Bool.or_true, Bool.true_or, Bool.false_or, Bool.or_false, Bool.and_true, Bool.and_false, Bool.true_and, Bool.false_and, addI, subI, ltI, leI, gtI, geI, eqI, neI, E3.negI, ix_cell0, ix_cell1, E3.le0, E3.le1, E3.le2, E3.le3, E3.le4, E3.le5, E3.le6, beq_self_eq_true, Int.reduceBEq, E3.divmodI, E3.modI, E3.fdivI, E3.powL, E3.mulLL, E3.isi_bool_none, E3.isi_bool_bool, E3.isi_bool_int, E3.isi_bool_str, E3.isi_bool_list, E3.isi_bool_tuple, E3.isi_int_none, E3.isi_int_bool, E3.isi_int_int, E3.isi_int_str, E3.isi_int_list, E3.isi_int_tuple, E3.isi_str_none, E3.isi_str_bool, E3.isi_str_int, E3.isi_str_str, E3.isi_str_list, E3.isi_str_tuple, E3.isi_list_none, E3.isi_list_bool, E3.isi_list_int, E3.isi_list_str, E3.isi_list_list, E3.isi_list_tuple, E3.isi_tuple_none, E3.isi_tuple_bool, E3.isi_tuple_int, E3.isi_tuple_str, E3.isi_tuple_list, E3.isi_tuple_tuple, E3.isN_none, E3.ntN_none, E3.isN_bool, E3.ntN_bool, E3.isN_int, E3.ntN_int, E3.isN_str, E3.ntN_str, E3.isN_list, E3.ntN_list, E3.isN_tuple, E3.ntN_tuple, E3.len_list, E3.len_tup, E3.seq_list, E3.seq_tup, E3.tup_list, E3.tup_tup, E3.lst_list, E3.lst_tup, xM, xV, xB, xTB, x2, xAnd, xNil, xCons, xTup, xLst, xCall, xSl, xPotd, ownXd, potKd, ePotE, dropKV, fnPd, startPd, endPd, slL, eSlL, xPot, ownX, potK, XR.bind_ok, XR.bind_exc, XR.bind_stuck, XR.of_ok, XR.of_exc, XR.of_stuck, thenX_ok, thenX_exc, thenX_stuck, qSet, qRet, qIf, qAsg, qForR, qFor, H70.fR_i, H70.fR_b, H70.fR_ii, H70.fR_c, fnP, startP, endP, fnL, startL, endL, xPotL, xLast, fnN, endN, E3.ix_lst0, Int.cast_ofNat_Int])
local macro_rules | `(tactic| walk_at "evs") => `(tactic| try simp (disch := first | decide | decide +kernel | omega) only [fnD, xOr, xNot, startF, endF, sSeq, sAsg, sSet, sSetV, sAsgV, sIf, sRet, sNew, sNewV, sMut, sMutV, sFor, sForR, sFreeze, sNil, sExpr, optK, thenR_ok, thenR_exc, thenR_stuck,
  view, mask, E3.eVar_zero, E3.eVar_succ, eC, e1, e2, eCall, eTup, eLst, eSl, oNone, oSome, eAnd, eOr, eIf, E3.tAnd, E3.tOr, E3.tNot, E3.tB, asB, notD, aNil, aCons, Res.bind_ok, Res.bind_exc, Res.bind_stuck,
  gT, gsCons, gsNil, gN, tupD, lstD, Slot.dat, Slot.shd, List.length_cons, List.length_nil, List.map_cons, List.map_nil, List.replicate, List.append_nil, List.cons_append, List.nil_append, Option.map_some, Option.map_none, Option.bind_some, Option.bind_none,
  List.getElem?_cons_zero, List.getElem?_cons_succ, List.set_cons_zero, List.set_cons_succ, Nat.reduceAdd, Nat.reduceSub, Nat.reduceEqDiff, if_true, if_false, ite_true, ite_false, reduceIte, decide_true, decide_false, reduceCtorEq, Bool.not_true, Bool.not_false, Bool.false_eq_true, Bool.true_eq_false, Bool.or_true, Bool.true_or, Bool.false_or, Bool.or_false, Bool.and_true, Bool.and_false, Bool.true_and, Bool.false_and, addI, subI, ltI, leI, gtI, geI, eqI, neI, E3.negI, ix_cell0, ix_cell1, E3.le0, E3.le1, E3.le2, E3.le3, E3.le4, E3.le5, E3.le6, beq_self_eq_true, Int.reduceBEq, E3.divmodI, E3.modI, E3.fdivI, E3.powL, E3.mulLL, E3.isi_bool_none, E3.isi_bool_bool, E3.isi_bool_int, E3.isi_bool_str, E3.isi_bool_list, E3.isi_bool_tuple, E3.isi_int_none, E3.isi_int_bool, E3.isi_int_int, E3.isi_int_str, E3.isi_int_list, E3.isi_int_tuple, E3.isi_str_none, E3.isi_str_bool, E3.isi_str_int, E3.isi_str_str, E3.isi_str_list, E3.isi_str_tuple, E3.isi_list_none, E3.isi_list_bool, E3.isi_list_int, E3.isi_list_str, E3.isi_list_list, E3.isi_list_tuple, E3.isi_tuple_none, E3.isi_tuple_bool, E3.isi_tuple_int, E3.isi_tuple_str, E3.isi_tuple_list, E3.isi_tuple_tuple, E3.isN_none, E3.ntN_none, E3.isN_bool, E3.ntN_bool, E3.isN_int, E3.ntN_int, E3.isN_str, E3.ntN_str, E3.isN_list, E3.ntN_list, E3.isN_tuple, E3.ntN_tuple, E3.len_list, E3.len_tup, E3.seq_list, E3.seq_tup, E3.tup_list, E3.tup_tup, E3.lst_list, E3.lst_tup, xM, xV, xB, xTB, x2, xAnd, xNil, xCons, xTup, xLst, xCall, xSl, xPotd, ownXd, potKd, ePotE, dropKV, fnPd, startPd, endPd, slL, eSlL, xPot, ownX, potK, XR.bind_ok, XR.bind_exc, XR.bind_stuck, XR.of_ok, XR.of_exc, XR.of_stuck, thenX_ok, thenX_exc, thenX_stuck, qSet, qRet, qIf, qAsg, qForR, qFor, H70.fR_i, H70.fR_b, H70.fR_ii, H70.fR_c, fnP, startP, endP, fnL, startL, endL, xPotL, xLast, fnN, endN, E3.ix_lst0, Int.cast_ofNat_Int, *])
open H70 H48
theorem mins_in {sets : List (List Pt)} {w : List Pt} (hs : ∀ s ∈ sets, Sub s w) {a : List Pt} (h : MinP (hits sets) a) : Sub a w := by
  have e : (a.filter fun x => decide (x ∈ w)) = a := h.2.2 _ (h.1.sublist List.filter_sublist) (fun s m => by
    obtain ⟨x, x1, x2⟩ := h.2.1 s m
    exact ⟨x, List.mem_filter.mpr ⟨x1, decide_eq_true (hs s m x x2)⟩, x2⟩) fun x hx => (List.mem_filter.mp hx).1
  intro x hx
  rw [← e] at hx
  exact of_decide_eq_true (List.mem_filter.mp hx).2
theorem dueB_is {sets : List (List Pt)} {w : List Pt} (h : Rs w) (hs : ∀ s ∈ sets, Sub s w) (a : List Pt) : a ∈ dueB w (fun b => hitB sets (subB w b)) ↔ MinP (hits sets) a :=
  due_is h (fun b _ => hitB_iff) (fun _ _ _ _ s k => hits_mono s k) (fun a k => mins_in hs k) a
theorem dueB_len {sets : List (List Pt)} {w : List Pt} (h : Rs w) (hw : w.length = 6) (hs : ∀ s ∈ sets, Sub s w) : (dueB w fun b => hitB sets (subB w b)).length ≤ 32 := by
  have := anti_le w (dueB w fun b => hitB sets (subB w b)) (fun e => by rw [e] at hw; cases hw) (due_nd _ h) (fun a ha => by
    have m := (dueB_is h hs a).mp ha
    exact ⟨m.1, mins_in hs m⟩) fun a ha b hb s => by
    have m := (dueB_is h hs a).mp ha
    have n := (dueB_is h hs b).mp hb
    exact n.2.2 a m.1 m.2.1 s
  rw [hw] at this
  exact this
theorem window_go {w : List Pt} (h : Rs w) (hw : w.length = 6) : ∀ (rest done found : List (List Pt)), Told (hits done) found → (∀ s ∈ done, Sub s w) → (∀ s ∈ rest, Sub s w) → ∃ G, crossF found rest = some G ∧ Told (hits (done ++ rest)) G
  | [], done, found, t, _, _ => ⟨found, rfl, by rw [List.append_nil]; exact t⟩
  | one :: rest, done, found, t, hd, hr => by
    have hs : ∀ s ∈ done ++ [one], Sub s w := fun s m => by
      rcases List.mem_append.mp m with m | m
      · exact hd s m
      · rw [List.mem_singleton.mp m]; exact hr one List.mem_cons_self
    have l := dueB_len h hw hs
    obtain ⟨c, t2⟩ := cross_go (one := one) (rest := rest) t (due_nd _ h) (dueB_is h hs) (by omega) fun a ha => by
      have m := (dueB_is h hs a).mp ha
      have := sub_len (rs_nd m.1) (mins_in hs m)
      omega
    obtain ⟨G, e, t3⟩ := window_go h hw rest (done ++ [one]) _ t2 hs fun s m => hr s (List.mem_cons_of_mem _ m)
    rw [List.append_assoc] at t3
    exact ⟨G, c.trans e, t3⟩
theorem window_ok {w : List Pt} (h : Rs w) (hw : w.length = 6) (sets : List (List Pt)) (hs : ∀ s ∈ sets, Sub s w) : crossF [[]] sets = some (srtS (dueB w fun b => hitB sets (subB w b))) := by
  obtain ⟨G, e, t⟩ := window_go h hw sets [] [[]] told_nil (fun s m => by cases m) hs
  rw [List.nil_append] at t
  have t2 : Told (hits sets) (srtS (dueB w fun b => hitB sets (subB w b))) := ⟨(srtS_perm _).nodup_iff.mpr (due_nd _ h), fun a => mem_srtS.trans (dueB_is h hs a), srtS_idem _⟩
  rw [e, told_one t t2]
theorem refused_of (L : List D → Res D) (B : SF) (x : D) (hB : B = sExpr (eCall L (aCons (eVar 0) aNil))) (h : L [x] = .exc tmX) : fnD 3 1 (sSeq (sSet 1 (eC (.bool false)))
  (sSeq (sTry [⟨cat_MossError, some 2, (sSet 1 (e1 (isaD rel_0) (eVar 2)))⟩] B)
  (sRet (eVar 1)))) [x] = .ok (.bool true) := by
  have body : B [some (.sh x), some (.sh (.bool false)), none] = .exc tmX [some (.sh x), some (.sh (.bool false)), none] := by
    rw [hB]
    walk_at "ev"
    rw [h]
    try walk_at "ev"
  clear hB
  walk_at "ev"
  unfold sTry
  rw [body]
  rfl
theorem refused_ok (x : D) (h : D_crossed [x] = .exc tmX) : D_law_refused [x] = .ok (.bool true) := refused_of D_crossed _ x rfl h
def rowL (r : Int) (m : Nat) (g s : Int) : List Pt := (List.range m).map fun k : Nat => (r, (s + (k : Int)) * g)
theorem mem_row {r g s : Int} {m : Nat} {x : Pt} : x ∈ rowL r m g s ↔ ∃ k < m, x = (r, (s + ((k : Nat) : Int)) * g) := by
  unfold rowL
  rw [List.mem_map]
  constructor
  · rintro ⟨k, hk, rfl⟩
    exact ⟨k, List.mem_range.mp hk, rfl⟩
  · rintro ⟨k, hk, rfl⟩
    exact ⟨k, List.mem_range.mpr hk, rfl⟩
theorem mul_lt {a b g : Int} (hg : 1 ≤ g) (h : a < b) : a * g < b * g := Int.mul_lt_mul_of_pos_right h (by omega)
theorem mul_inj {a b g : Int} (hg : 1 ≤ g) (h : a * g = b * g) : a = b := Int.eq_of_mul_eq_mul_right (by omega) h
theorem row_nd {r g s : Int} {m : Nat} (hg : 1 ≤ g) : (rowL r m g s).Nodup := by
  refine List.Pairwise.map _ (fun a b h => h) (List.Pairwise.imp ?_ (List.nodup_range (n := m)))
  intro a b ne e
  injection e with _ e
  have := mul_inj hg e
  omega
theorem row_len (r g s : Int) (m : Nat) : (rowL r m g s).length = m := by unfold rowL; rw [List.length_map, List.length_range]
theorem row_el (k : Nat) (r g s : Int) (x1 : Option D) (hk : k < 1000) (hs : 0 ≤ s ∧ s ≤ 1000) (hg : 1 ≤ g ∧ g ≤ 1000) : (eTup (aCons (eVar 0) (aCons (e2 mulD (e2 addD (eVar 3) (eVar 4)) (eVar 2)) aNil))) [some (.int r), x1, some (.int g), some (.int s), some (.int ((k : Nat) : Int))] = .ok (cellD (r, (s + (k : Int)) * g)) := by
  have mu : mulD (.int (s + (k : Int))) (.int g) = .ok (.int ((s + (k : Int)) * g)) := mulB 20 20 (by omega) (by omega) (by decide)
  generalize ((k : Nat) : Int) = i at *
  walk_at "ev"
  rw [mu]; walk_at "ev"
  try rfl
theorem row_fin (E : DS → Res D) (r m g s : D) (l : List D) (h : ∀ x, E [some r, some m, some g, some s, x] = .ok (.list l)) : fnD 5 4 (sRet (eCall tupleD (aCons E aNil))) [r, m, g, s] = .ok (.tuple l) := by
  walk_at "ev"
  rw [h]; walk_at "ev"
theorem rng_it (RG : List D → Res (List D)) (σ : DS) (i : Nat) (v : D) (ks : List D) (hv : eVar i σ = .ok v) (rg : RG [v] = .ok ks) : (fun σ => ((aCons (eVar i) aNil) σ).bind RG) σ = .ok ks := by
  show ((aCons (eVar i) aNil) σ).bind RG = _
  simp only [aCons, aNil, hv, Res.bind_ok]
  exact rg
theorem row_ok (r g s : Int) (m : Nat) (hm : m ≤ 1000) (hs : 0 ≤ s ∧ s ≤ 1000) (hg : 1 ≤ g ∧ g ≤ 1000) : D_law_row [.int r, .int ((m : Nat) : Int), .int g, .int s] = .ok (tupC (rowL r m g s)) := by
  have rg := rng_k (n := ((m : Nat) : Int)) (k := m) rfl (by omega)
  refine row_fin _ _ _ _ _ ((rowL r m g s).map cellD) fun x => ?_
  have := H80.lcG (it := fun σ => ((aCons (eVar 1) aNil) σ).bind rng1) (k := 4) (f := eTup (aCons (eVar 0) (aCons (e2 mulD (e2 addD (eVar 3) (eVar 4)) (eVar 2)) aNil))) (σ := [some (.int r), some (.int ((m : Nat) : Int)), some (.int g), some (.int s), x]) (e := fun i : Nat => PyData.int (i : Int)) (q := fun k : Nat => cellD (r, (s + (k : Int)) * g)) (List.range m) (rng_it rng1 _ 1 _ _ rfl rg) (by rw [List.length_range]; omega) fun k hk => row_el k r g s _ (by have := List.mem_range.mp hk; omega) hs hg
  rw [this]
  unfold rowL
  rw [List.map_map]
  rfl
def pairL (far q : Int) (n : Nat) : List (List Pt) := (List.range n).map fun k : Nat => [((k : Int), 0 - far), ((k : Int), 1 + q)]
theorem mem_pair {far q : Int} {n : Nat} {p : List Pt} : p ∈ pairL far q n ↔ ∃ k < n, p = [((k : Int), 0 - far), ((k : Int), 1 + q)] := by
  unfold pairL
  rw [List.mem_map]
  constructor
  · rintro ⟨k, hk, rfl⟩
    exact ⟨k, List.mem_range.mp hk, rfl⟩
  · rintro ⟨k, hk, rfl⟩
    exact ⟨k, List.mem_range.mpr hk, rfl⟩
theorem pair_two {far q : Int} (hf : 0 ≤ far) (hq : 0 ≤ q) {n : Nat} : ∀ p ∈ pairL far q n, p.length = 2 ∧ p.Nodup := fun p hp => by
  obtain ⟨k, _, rfl⟩ := mem_pair.mp hp
  refine ⟨rfl, List.nodup_cons.mpr ⟨fun h => ?_, List.nodup_cons.mpr ⟨fun h => (by cases h), List.nodup_nil⟩⟩⟩
  have e := List.mem_singleton.mp h
  injection e with _ e
  omega
theorem pair_row {far q : Int} {k : Nat} {x : Pt} (h : x ∈ [((k : Int), 0 - far), ((k : Int), 1 + q)]) : x.1 = (k : Int) := by
  rcases List.mem_cons.mp h with rfl | h
  · rfl
  · rw [List.mem_singleton.mp h]
theorem pair_pw (far q : Int) (n : Nat) : (pairL far q n).Pairwise fun p r => ∀ x ∈ p, x ∉ r := by
  refine List.Pairwise.map _ (fun a b h => h) (List.Pairwise.imp ?_ (List.nodup_range (n := n)))
  intro a b ne x hx hy
  have := pair_row hx
  have := pair_row hy
  omega
theorem pair_take (far q : Int) (n m : Nat) (h : m ≤ n) : (pairL far q n).take m = pairL far q m := by
  unfold pairL
  rw [← List.map_take, List.take_range, Nat.min_eq_left h]
theorem five_pairs {far q : Int} (hf : 0 ≤ far) (hq : 0 ≤ q) (rest : List (List Pt)) : ∃ G, crossF [[]] (pairL far q 5 ++ rest) = crossF G rest ∧ Told (hits (pairL far q 5)) G ∧ G.length = 32 ∧ ∀ a ∈ G, ∀ x ∈ a, ∃ p ∈ pairL far q 5, x ∈ p := by
  obtain ⟨G, c, t, l, s, _⟩ := cross_pairs (pairL far q 5) [] [[]] rest 0 told_nil (pair_two hf hq) (pair_pw far q 5) (fun a ha x hx => by rw [List.mem_singleton.mp ha] at hx; cases hx) (fun a ha => by rw [List.mem_singleton.mp ha]; exact Nat.le_refl _) (by unfold pairL; rw [List.length_map, List.length_range]; decide) (by unfold pairL; rw [List.length_map, List.length_range]; decide)
  refine ⟨G, c, by rw [List.nil_append] at t; exact t, by rw [l]; unfold pairL; rw [List.length_map, List.length_range]; rfl, fun a ha x hx => ?_⟩
  rcases s a ha x hx with ⟨b, hb, xb⟩ | h
  · rw [List.mem_singleton.mp hb] at xb; cases xb
  · exact h
theorem six_pairs {far q : Int} (hf : 0 ≤ far) (hq : 0 ≤ q) (n : Nat) (hn : 6 ≤ n) (rest : List (List Pt)) : crossF [[]] (pairL far q n ++ rest) = none := by
  obtain ⟨p, tl, e⟩ : ∃ p tl, (pairL far q n) = pairL far q 5 ++ (p :: tl) ∧ p = [(((5 : Nat) : Int), 0 - far), (((5 : Nat) : Int), 1 + q)] := by
    obtain ⟨m, rfl⟩ : ∃ m, n = 5 + (m + 1) := ⟨n - 6, by omega⟩
    refine ⟨_, ?_, ?_, rfl⟩
    · exact (List.range' 6 m).map fun k : Nat => [((k : Int), 0 - far), ((k : Int), 1 + q)]
    · unfold pairL
      rw [List.range_eq_range', List.range_eq_range', ← List.range'_append_1, List.map_append, show List.range' (0 + 5) (m + 1) = 5 :: List.range' 6 m from List.range'_succ, List.map_cons (a := 5)]
  obtain ⟨e1, e2⟩ := e
  obtain ⟨G, c, t, l, s⟩ := five_pairs hf hq ((p :: tl) ++ rest)
  have hp : p ∈ pairL far q n := by rw [e1]; exact List.mem_append_right _ List.mem_cons_self
  obtain ⟨q1, q2⟩ := pair_two hf hq p hp
  rw [e1, List.append_assoc, c]
  exact cross_over t q2 (fun a ha x hx hm => by
    obtain ⟨r, hr, xr⟩ := s a ha x hx
    obtain ⟨k, hk, rfl⟩ := mem_pair.mp hr
    rw [e2] at hm
    have := pair_row hm
    have := pair_row xr
    omega) (by rw [l, q1]; decide)
theorem first_row {one : List Pt} (n1 : one.Nodup) (rest : List (List Pt)) (h : one.length ≤ 60) : ∃ G, crossF [[]] (one :: rest) = crossF G rest ∧ Told (hits [one]) G ∧ G.length = one.length ∧ (∀ a ∈ G, ∀ x ∈ a, x ∈ one) ∧ ∀ a ∈ G, a.length ≤ 1 := by
  obtain ⟨G, c, t, l, s, m⟩ := cross_disj (one := one) (rest := rest) told_nil n1 (fun a ha x hx => by rw [List.mem_singleton.mp ha] at hx; cases hx) (by rw [List.length_singleton]; omega) fun a ha => by rw [List.mem_singleton.mp ha]; decide
  refine ⟨G, c, t, by rw [l, List.length_singleton, Nat.one_mul], fun a ha x hx => ?_, fun a ha => ?_⟩
  · rcases s a ha x hx with ⟨b, hb, xb⟩ | h
    · rw [List.mem_singleton.mp hb] at xb; cases xb
    · exact h
  · obtain ⟨b, hb, lb⟩ := m a ha
    rw [List.mem_singleton.mp hb] at lb
    exact lb
theorem count_60 {g : Int} (hg : 1 ≤ g) : ∃ G, crossF [[]] [rowL 1 5 g 0, rowL 2 12 g 3] = some G ∧ G.length = 60 := by
  obtain ⟨G, c, t, l, s, m⟩ := first_row (row_nd (r := 1) (s := 0) (m := 5) hg) [rowL 2 12 g 3] (by rw [row_len]; decide)
  rw [row_len] at l
  obtain ⟨H, c2, t2, l2, _, _⟩ := cross_disj (one := rowL 2 12 g 3) (rest := []) t (row_nd hg) (fun a ha x hx hm => by
    obtain ⟨_, _, e⟩ := mem_row.mp (s a ha x hx)
    obtain ⟨_, _, f⟩ := mem_row.mp hm
    rw [e] at f
    injection f with f _
    exact absurd f (by decide)) (by rw [row_len, l]; decide) fun a ha => by have := m a ha; omega
  exact ⟨H, c.trans c2, by rw [l2, l, row_len]⟩
theorem count_no {g : Int} (hg : 1 ≤ g) : crossF [[]] [rowL 3 6 g 0 ++ [(5, 5)], rowL 4 10 g 2 ++ [(5, 5)]] = none := by
  have o3 : ∀ x ∈ rowL 3 6 g 0, x.1 = 3 := fun x hx => by obtain ⟨_, _, e⟩ := mem_row.mp hx; rw [e]
  have o4 : ∀ x ∈ rowL 4 10 g 2, x.1 = 4 := fun x hx => by obtain ⟨_, _, e⟩ := mem_row.mp hx; rw [e]
  have l3 := row_len 3 g 0 6
  have l4 := row_len 4 g 2 10
  have n3 : (rowL 3 6 g 0).Nodup := row_nd hg
  have n4 : (rowL 4 10 g 2).Nodup := row_nd hg
  generalize rowL 3 6 g 0 = A at *
  generalize rowL 4 10 g 2 = B at *
  have m5 : ∀ x ∈ [((5, 5) : Pt)], x.1 = 5 := fun x hx => by rw [List.mem_singleton.mp hx]
  have nA : (A ++ [(5, 5)]).Nodup := List.nodup_append.mpr ⟨n3, by simp, fun x hx y hy e => by have := o3 x hx; have := m5 y hy; rw [e] at *; omega⟩
  obtain ⟨G, c, t, l, s, m⟩ := first_row nA [B ++ [(5, 5)]] (by rw [List.length_append, l3]; decide)
  have key : ∀ a ∈ A, ∀ b ∈ B, ∀ a' ∈ A, ∀ b' ∈ B, srt [a, b] = srt [a', b'] → a = a' ∧ b = b' := fun a ha b hb a' ha' b' hb' e => by
    have h1 : a ∈ srt [a', b'] := by rw [← e]; exact mem_srt.mpr List.mem_cons_self
    have h2 : b ∈ srt [a', b'] := by rw [← e]; exact mem_srt.mpr (List.mem_cons_of_mem _ List.mem_cons_self)
    constructor
    · rcases List.mem_cons.mp (mem_srt.mp h1) with h | h
      · exact h
      · have h := List.mem_singleton.mp h
        have := o3 a ha; have := o4 b' hb'; rw [h] at *; omega
    · rcases List.mem_cons.mp (mem_srt.mp h2) with h | h
      · have := o4 b hb; have := o3 a' ha'; rw [h] at *; omega
      · exact List.mem_singleton.mp h
  have nJ : ∀ A' : List Pt, A'.Nodup → (∀ a ∈ A', a ∈ A) → (A'.flatMap fun a => B.map fun b => srt [a, b]).Nodup := by
    intro A'
    induction A' with
    | nil => intro _ _; exact List.nodup_nil
    | cons a A' ih =>
      intro nd hs
      obtain ⟨q1, q2⟩ := List.nodup_cons.mp nd
      rw [List.flatMap_cons, List.nodup_append]
      refine ⟨?_, ih q2 fun b hb => hs b (List.mem_cons_of_mem _ hb), fun x hx y hy e => ?_⟩
      · refine List.Pairwise.map _ (fun a b h => h) (List.Pairwise.imp_of_mem ?_ n4)
        intro b b' hb hb' ne e
        exact ne (key a (hs a List.mem_cons_self) b hb a (hs a List.mem_cons_self) b' hb' e).2
      · obtain ⟨b, hb, rfl⟩ := List.mem_map.mp hx
        obtain ⟨a', ha', hy⟩ := List.mem_flatMap.mp hy
        obtain ⟨b', hb', rfl⟩ := List.mem_map.mp hy
        have := (key a (hs a List.mem_cons_self) b hb a' (hs a' (List.mem_cons_of_mem _ ha')) b' hb' e).1
        exact q1 (by rw [this]; exact ha')
  have lJ : ∀ A' : List Pt, (A'.flatMap fun a => B.map fun b => srt [a, b]).length = A'.length * 10 := by
    intro A'
    induction A' with
    | nil => rfl
    | cons a A' ih => rw [List.flatMap_cons, List.length_append, ih, List.length_map, l4, List.length_cons]; omega
  rw [c]
  refine cross_no (M := [((5, 5) : Pt)] :: A.flatMap fun a => B.map fun b => srt [a, b]) t (List.nodup_cons.mpr ⟨fun h => ?_, nJ A n3 fun a h => h⟩) (fun a ha => ?_) (by rw [List.length_cons, lJ, l3]; decide)
  · obtain ⟨a, ha, h⟩ := List.mem_flatMap.mp h
    obtain ⟨b, hb, h⟩ := List.mem_map.mp h
    have : a ∈ [((5, 5) : Pt)] := by rw [← h]; exact mem_srt.mpr List.mem_cons_self
    have := m5 a this
    have := o3 a ha
    omega
  · show MinP (hits [A ++ [(5, 5)], B ++ [(5, 5)]]) a
    rcases List.mem_cons.mp ha with rfl | ha
    · exact one_min (List.mem_append_right _ List.mem_cons_self) (List.mem_append_right _ List.mem_cons_self)
    · obtain ⟨x, hx, h⟩ := List.mem_flatMap.mp ha
      obtain ⟨y, hy, rfl⟩ := List.mem_map.mp h
      refine pair_min (List.mem_append_left _ hx) (List.mem_append_left _ hy) (fun h => ?_) fun h => ?_
      · rcases List.mem_append.mp h with h | h
        · have := o3 x hx; have := o4 x h; omega
        · have := o3 x hx; have := m5 x h; omega
      · rcases List.mem_append.mp h with h | h
        · have := o4 y hy; have := o3 y h; omega
        · have := o4 y hy; have := m5 y h; omega
end K54
namespace K54
open PySem PySem.Spec PyProof.Rows L2 E3 
local macro_rules | `(tactic| walk_at "ev") => `(tactic| try simp (disch := first | decide | decide +kernel | omega) only [fnD, xOr, xNot, startF, endF, sSeq, sAsg, sSet, sSetV, sAsgV, sIf, sRet, sNew, sNewV, sMut, sMutV, sFor, sForR, sFreeze, sNil, sExpr, optK, thenR_ok, thenR_exc, thenR_stuck,
  view, mask, E3.eVar_zero, E3.eVar_succ, eC, e1, e2, eCall, eTup, eLst, eSl, oNone, oSome, eAnd, eOr, eIf, E3.tAnd, E3.tOr, E3.tNot, E3.tB, asB, notD, aNil, aCons, Res.bind_ok, Res.bind_exc, Res.bind_stuck,
  gT, gsCons, gsNil, gN, tupD, lstD, Slot.dat, Slot.shd, List.length_cons, List.length_nil, List.map_cons, List.map_nil, List.replicate, List.append_nil, List.cons_append, List.nil_append, Option.map_some, Option.map_none, Option.bind_some, Option.bind_none,
  List.getElem?_cons_zero, List.getElem?_cons_succ, List.set_cons_zero, List.set_cons_succ, Nat.reduceAdd, Nat.reduceSub, Nat.reduceEqDiff, if_true, if_false, ite_true, ite_false, reduceIte, decide_true, decide_false, reduceCtorEq, Bool.not_true, Bool.not_false, Bool.false_eq_true, Bool.true_eq_false, Bool.or_true, Bool.true_or, Bool.false_or, Bool.or_false, Bool.and_true, Bool.and_false, Bool.true_and, Bool.false_and, addI, subI, ltI, leI, gtI, geI, eqI, neI, E3.negI, ix_cell0, ix_cell1, E3.le0, E3.le1, E3.le2, E3.le3, E3.le4, E3.le5, E3.le6, beq_self_eq_true, Int.reduceBEq, E3.divmodI, E3.modI, E3.fdivI, E3.powL, E3.mulLL, E3.isi_bool_none, E3.isi_bool_bool, E3.isi_bool_int, E3.isi_bool_str, E3.isi_bool_list, E3.isi_bool_tuple, E3.isi_int_none, E3.isi_int_bool, E3.isi_int_int, E3.isi_int_str, E3.isi_int_list, E3.isi_int_tuple, E3.isi_str_none, E3.isi_str_bool, E3.isi_str_int, E3.isi_str_str, E3.isi_str_list, E3.isi_str_tuple, E3.isi_list_none, E3.isi_list_bool, E3.isi_list_int, E3.isi_list_str, E3.isi_list_list, E3.isi_list_tuple, E3.isi_tuple_none, E3.isi_tuple_bool, E3.isi_tuple_int, E3.isi_tuple_str, E3.isi_tuple_list, E3.isi_tuple_tuple, E3.isN_none, E3.ntN_none, E3.isN_bool, E3.ntN_bool, E3.isN_int, E3.ntN_int, E3.isN_str, E3.ntN_str, E3.isN_list, E3.ntN_list, E3.isN_tuple, E3.ntN_tuple, E3.len_list, E3.len_tup, E3.seq_list, E3.seq_tup, E3.tup_list, E3.tup_tup, E3.lst_list, E3.lst_tup, xM, xV, xB, xTB, x2, xAnd, xNil, xCons, xTup, xLst, xCall, xSl, xPotd, ownXd, potKd, ePotE, dropKV, fnPd, startPd, endPd, slL, eSlL, xPot, ownX, potK, XR.bind_ok, XR.bind_exc, XR.bind_stuck, XR.of_ok, XR.of_exc, XR.of_stuck, thenX_ok, thenX_exc, thenX_stuck, qSet, qRet, qIf, qAsg, qForR, qFor, H70.fR_i, H70.fR_b, H70.fR_ii, H70.fR_c, fnP, startP, endP, fnL, startL, endL, xPotL, xLast, fnN, endN, E3.ix_lst0, Int.cast_ofNat_Int])
local macro_rules | `(tactic| walk_at "evs") => `(tactic| try simp (disch := first | decide | decide +kernel | omega) only [fnD, xOr, xNot, startF, endF, sSeq, sAsg, sSet, sSetV, sAsgV, sIf, sRet, sNew, sNewV, sMut, sMutV, sFor, sForR, sFreeze, sNil, sExpr, optK, thenR_ok, thenR_exc, thenR_stuck,
  view, mask, E3.eVar_zero, E3.eVar_succ, eC, e1, e2, eCall, eTup, eLst, eSl, oNone, oSome, eAnd, eOr, eIf, E3.tAnd, E3.tOr, E3.tNot, E3.tB, asB, notD, aNil, aCons, Res.bind_ok, Res.bind_exc, Res.bind_stuck,
  gT, gsCons, gsNil, gN, tupD, lstD, Slot.dat, Slot.shd, List.length_cons, List.length_nil, List.map_cons, List.map_nil, List.replicate, List.append_nil, List.cons_append, List.nil_append, Option.map_some, Option.map_none, Option.bind_some, Option.bind_none,
  List.getElem?_cons_zero, List.getElem?_cons_succ, List.set_cons_zero, List.set_cons_succ, Nat.reduceAdd, Nat.reduceSub, Nat.reduceEqDiff, if_true, if_false, ite_true, ite_false, reduceIte, decide_true, decide_false, reduceCtorEq, Bool.not_true, Bool.not_false, Bool.false_eq_true, Bool.true_eq_false, Bool.or_true, Bool.true_or, Bool.false_or, Bool.or_false, Bool.and_true, Bool.and_false, Bool.true_and, Bool.false_and, addI, subI, ltI, leI, gtI, geI, eqI, neI, E3.negI, ix_cell0, ix_cell1, E3.le0, E3.le1, E3.le2, E3.le3, E3.le4, E3.le5, E3.le6, beq_self_eq_true, Int.reduceBEq, E3.divmodI, E3.modI, E3.fdivI, E3.powL, E3.mulLL, E3.isi_bool_none, E3.isi_bool_bool, E3.isi_bool_int, E3.isi_bool_str, E3.isi_bool_list, E3.isi_bool_tuple, E3.isi_int_none, E3.isi_int_bool, E3.isi_int_int, E3.isi_int_str, E3.isi_int_list, E3.isi_int_tuple, E3.isi_str_none, E3.isi_str_bool, E3.isi_str_int, E3.isi_str_str, E3.isi_str_list, E3.isi_str_tuple, E3.isi_list_none, E3.isi_list_bool, E3.isi_list_int, E3.isi_list_str, E3.isi_list_list, E3.isi_list_tuple, E3.isi_tuple_none, E3.isi_tuple_bool, E3.isi_tuple_int, E3.isi_tuple_str, E3.isi_tuple_list, E3.isi_tuple_tuple, E3.isN_none, E3.ntN_none, E3.isN_bool, E3.ntN_bool, E3.isN_int, E3.ntN_int, E3.isN_str, E3.ntN_str, E3.isN_list, E3.ntN_list, E3.isN_tuple, E3.ntN_tuple, E3.len_list, E3.len_tup, E3.seq_list, E3.seq_tup, E3.tup_list, E3.tup_tup, E3.lst_list, E3.lst_tup, xM, xV, xB, xTB, x2, xAnd, xNil, xCons, xTup, xLst, xCall, xSl, xPotd, ownXd, potKd, ePotE, dropKV, fnPd, startPd, endPd, slL, eSlL, xPot, ownX, potK, XR.bind_ok, XR.bind_exc, XR.bind_stuck, XR.of_ok, XR.of_exc, XR.of_stuck, thenX_ok, thenX_exc, thenX_stuck, qSet, qRet, qIf, qAsg, qForR, qFor, H70.fR_i, H70.fR_b, H70.fR_ii, H70.fR_c, fnP, startP, endP, fnL, startL, endL, xPotL, xLast, fnN, endN, E3.ix_lst0, Int.cast_ofNat_Int, *])
open H70 H48
def dueC (g : Int) : List (List Pt) := (([1, 2, 3, 4, 5, 6, 7, 8] : List Int).map fun k => [(0, k * g)]) ++ [[(0, 0), (0, 9 * g)]]
theorem mem_dueC {g : Int} {a : List Pt} : a ∈ dueC g ↔ (∃ k : Int, 1 ≤ k ∧ k ≤ 8 ∧ a = [(0, k * g)]) ∨ a = [(0, 0), (0, 9 * g)] := by
  unfold dueC
  rw [List.mem_append, List.mem_map, List.mem_singleton]
  constructor
  · rintro (⟨k, hk, rfl⟩ | h)
    · refine .inl ⟨k, ?_, ?_, rfl⟩ <;> (simp only [List.mem_cons, List.not_mem_nil, or_false] at hk; omega)
    · exact .inr h
  · rintro (⟨k, h1, h2, rfl⟩ | h)
    · refine .inl ⟨k, ?_, rfl⟩
      simp only [List.mem_cons, List.not_mem_nil, or_false]
      omega
    · exact .inr h
theorem dueC_nd {g : Int} (hg : 1 ≤ g) : (dueC g).Nodup := by
  unfold dueC
  rw [List.nodup_append]
  refine ⟨?_, by simp, fun x hx y hy e => ?_⟩
  · refine List.Pairwise.map _ (fun a b h => h) (List.Pairwise.imp ?_ (show ([1, 2, 3, 4, 5, 6, 7, 8] : List Int).Nodup by decide))
    intro a b ne e
    injection e with e _
    injection e with _ e
    exact ne (mul_inj hg e)
  · obtain ⟨k, _, rfl⟩ := List.mem_map.mp hx
    rw [List.mem_singleton.mp hy] at e
    injection e with _ e
    cases e
theorem mem_rowI {r g s : Int} {m : Nat} {x : Pt} : x ∈ rowL r m g s ↔ ∃ k : Int, s ≤ k ∧ k < s + (m : Nat) ∧ x = (r, k * g) := by
  rw [mem_row]
  constructor
  · rintro ⟨k, hk, rfl⟩
    exact ⟨s + ((k : Nat) : Int), by omega, by omega, rfl⟩
  · rintro ⟨k, h1, h2, rfl⟩
    exact ⟨(k - s).toNat, by omega, by rw [show s + (((k - s).toNat : Nat) : Int) = k by omega]⟩
theorem row_at {r g s k : Int} {m : Nat} (hg : 1 ≤ g) : (r, k * g) ∈ rowL r m g s ↔ s ≤ k ∧ k < s + (m : Nat) := by
  rw [mem_rowI]
  constructor
  · rintro ⟨j, h1, h2, e⟩
    injection e with _ e
    rw [mul_inj hg e]
    exact ⟨h1, h2⟩
  · rintro ⟨h1, h2⟩
    exact ⟨k, h1, h2, rfl⟩
theorem srt_nine {g : Int} (hg : 1 ≤ g) : srt [((0 : Int), (0 : Int)), (0, 9 * g)] = [(0, 0), (0, 9 * g)] := by
  refine rs_ext (pw_srt _) ?_ fun x => mem_srt
  refine List.pairwise_cons.mpr ⟨fun y hy => ?_, List.pairwise_singleton _ _⟩
  rw [List.mem_singleton.mp hy]
  exact .inr ⟨rfl, by show (0 : Int) < 9 * g; omega⟩
theorem count_1 {g : Int} (hg : 1 ≤ g) : crossF [[]] [rowL 0 9 g 0, rowL 0 9 g 1] = some (srtS (dueC g)) := by
  obtain ⟨G, c, t, l, s, m⟩ := first_row (row_nd (r := 0) (s := 0) (m := 9) hg) [rowL 0 9 g 1] (by rw [row_len]; decide)
  have i0 : ∀ k : Int, ((0 : Int), k * g) ∈ rowL 0 9 g 0 ↔ 0 ≤ k ∧ k < 0 + ((9 : Nat) : Int) := fun k => row_at hg
  have i1 : ∀ k : Int, ((0 : Int), k * g) ∈ rowL 0 9 g 1 ↔ 1 ≤ k ∧ k < 1 + ((9 : Nat) : Int) := fun k => row_at hg
  have z0 : ((0 : Int), (0 : Int)) = (0, 0 * g) := by rw [Int.zero_mul]
  have mins : ∀ a, a ∈ dueC g ↔ MinP (hits ([rowL 0 9 g 0] ++ [rowL 0 9 g 1])) a := fun a => by
    show _ ↔ MinP (hits [rowL 0 9 g 0, rowL 0 9 g 1]) a
    rw [mem_dueC]
    constructor
    · rintro (⟨k, h1, h2, rfl⟩ | rfl)
      · exact one_min ((i0 k).mpr (by omega)) ((i1 k).mpr (by omega))
      · have := pair_min (A := rowL 0 9 g 0) (B := rowL 0 9 g 1) (a := (0, 0 * g)) (b := (0, 9 * g)) ((i0 0).mpr (by omega)) ((i1 9).mpr (by omega)) (fun h => by have := (i1 0).mp h; omega) fun h => by have := (i0 9).mp h; omega
        rw [← z0, srt_nine hg] at this
        exact this
    · intro h
      rcases two_mins h with ⟨x, xA, xB, rfl⟩ | ⟨x, y, xA, yB, xB, yA, rfl⟩
      · obtain ⟨k, k1, k2, rfl⟩ := mem_rowI.mp xA
        have := (i1 k).mp xB
        exact .inl ⟨k, by omega, by omega, rfl⟩
      · obtain ⟨k, k1, k2, rfl⟩ := mem_rowI.mp xA
        obtain ⟨j, j1, j2, rfl⟩ := mem_rowI.mp yB
        have n1 : ¬ (1 ≤ k ∧ k < 1 + ((9 : Nat) : Int)) := fun h => xB ((i1 k).mpr h)
        have n2 : ¬ (0 ≤ j ∧ j < 0 + ((9 : Nat) : Int)) := fun h => yA ((i0 j).mpr h)
        have e1 : k = 0 := by omega
        have e2 : j = 9 := by omega
        right
        rw [e1, e2, ← z0, srt_nine hg]
  obtain ⟨c2, _⟩ := cross_go (one := rowL 0 9 g 1) (rest := []) t (dueC_nd hg) mins (by unfold dueC; rw [List.length_append, List.length_map]; show 8 + 1 ≤ 60; decide) fun a ha => by
    rcases mem_dueC.mp ha with ⟨k, _, _, rfl⟩ | rfl
    · exact Nat.le_add_left 1 399
    · show 2 ≤ 400; decide
  exact c.trans c2
theorem alike_cells : ∀ a b : List Pt, PySem.W.alikeAll (a.map cellD) (b.map cellD) = true
  | [], _ => by cases ‹List Pt› <;> rfl
  | _ :: _, [] => rfl
  | p :: a, q :: b => by
    rw [List.map_cons, List.map_cons]
    show (PySem.W.alike (cellD p) (cellD q) && PySem.W.alikeAll (a.map cellD) (b.map cellD)) = true
    rw [alike_cells a b]
    rfl
theorem sorted_ne (F : List (List Pt)) (ne : ∀ g ∈ F, g ≠ []) (hl : F.length ≤ 100000) : sortedD [.list (F.map tupC)] = .ok (.list ((srtS F).map tupC)) := by
  have ok : sortOk (F.map tupC) = true := by
    unfold sortOk
    have a1 : ((F.map tupC).all fun d => (F.map tupC).all fun e => PySem.W.alike d e) = true := List.all_eq_true.mpr fun d hd => List.all_eq_true.mpr fun e he => by
      obtain ⟨a, _, rfl⟩ := List.mem_map.mp hd
      obtain ⟨b, _, rfl⟩ := List.mem_map.mp he
      exact alike_cells a b
    have a2 : ((F.map tupC).all isTupNE) = true := List.all_eq_true.mpr fun d hd => by
      obtain ⟨a, ha, rfl⟩ := List.mem_map.mp hd
      have := ne a ha
      cases a with
      | nil => exact absurd rfl this
      | cons p r => rfl
    rw [a1, a2, H48.lay_sets, Bool.true_or, decide_eq_true (by have := H48.deep_sets F; omega), decide_eq_true (by rw [List.length_map, sizeLine_eq]; omega)]
    rfl
  show (if sortOk (F.map tupC) = true then Res.ok (PyData.list (sortL (F.map tupC))) else .stuck) = _
  rw [if_pos ok, sort_sets]
def LD : DS → Res D := (eLc (fun σ => ((aCons (eC (.int 1)) (aCons (eC (.int 9)) aNil)) σ).bind rng2) (gN 3) [3] tYesD (eTup (aCons (eTup (aCons (eC (.int 0)) (aCons (e2 mulD (eVar 3) (eVar 0)) aNil))) aNil)))
theorem ld_el (k g : Int) (x1 x2 : Option D) (hk : 0 ≤ k ∧ k ≤ 1000) (hg : 1 ≤ g ∧ g ≤ 1000) : (eTup (aCons (eTup (aCons (eC (.int 0)) (aCons (e2 mulD (eVar 3) (eVar 0)) aNil))) aNil)) [some (.int g), x1, x2, some (.int k)] = .ok (tupC [(0, k * g)]) := by
  have mu : mulD (.int k) (.int g) = .ok (.int (k * g)) := mulB 20 20 (by omega) (by omega) (by decide)
  walk_at "ev"
  rw [mu]; walk_at "ev"
  try rfl
theorem ld_ok (g : Int) (hg : 1 ≤ g ∧ g ≤ 1000) (x1 x2 x3 : Option D) : LD [some (.int g), x1, x2, x3] = .ok (.list ((([1, 2, 3, 4, 5, 6, 7, 8] : List Int).map fun k => [((0 : Int), k * g)]).map tupC)) := by
  rw [List.map_map]
  exact H80.lcG (e := PyData.int) (q := tupC ∘ fun k => [((0 : Int), k * g)]) [1, 2, 3, 4, 5, 6, 7, 8] rfl (by decide) fun k hk => ld_el k g _ _ (by simp only [List.mem_cons, List.not_mem_nil, or_false] at hk; omega) hg
theorem counts_of (E : DS → Res D) (Cr Ro Re : List D → Res D) (g : D) (d1 d3 l60 : List D) (sd a0 a1 b0 b1 : D) (c0 c1 : List D) (h1 : ∀ x1 x2 x3 : Option D, E [some g, x1, x2, x3] = .ok (.list d1)) (m9 : e2 mulD (eC (.int 9)) (eVar 0) [some g, none, none, none] = .ok sd) (ad : addD (.list d1) (.list [.tuple [.tuple [.int 0, .int 0], .tuple [.int 0, sd]]]) = .ok (.list d3)) (r1 : Ro [.int 0, .int 9, g, .int 0] = .ok a0) (r2 : Ro [.int 0, .int 9, g, .int 1] = .ok a1) (st : List D) (hs : sortedD [.list d3] = .ok (.list st)) (k1 : Cr [.list [a0, a1]] = .ok (.list st)) (n1 : neD (.list st) (.list st) = .ok (.bool false)) (r3 : Ro [.int 1, .int 5, g, .int 0] = .ok b0) (r4 : Ro [.int 2, .int 12, g, .int 3] = .ok b1) (k2 : Cr [.list [b0, b1]] = .ok (.list l60)) (hl : l60.length = 60) (r5 : Ro [.int 3, .int 6, g, .int 0] = .ok (.tuple c0)) (r6 : Ro [.int 4, .int 10, g, .int 2] = .ok (.tuple c1)) (h0 : c0.length = 6) (h10 : c1.length = 10) (k3 : Re [.list [.tuple (c0 ++ [.tuple [.int 5, .int 5]]), .tuple (c1 ++ [.tuple [.int 5, .int 5]])]] = .ok (.bool true)) :
  fnD 4 1 (sSeq (sSet 1 (e2 addD E (eLst (aCons (eTup (aCons (eTup (aCons (eC (.int 0)) (aCons (eC (.int 0)) aNil))) (aCons (eTup (aCons (eC (.int 0)) (aCons (e2 mulD (eC (.int 9)) (eVar 0)) aNil))) aNil))) aNil))))
  (sSeq (sIf (tB (e2 neD (eCall Cr (aCons (eLst (aCons (eCall Ro (aCons (eC (.int 0)) (aCons (eC (.int 9)) (aCons (eVar 0) (aCons (eC (.int 0)) aNil))))) (aCons (eCall Ro (aCons (eC (.int 0)) (aCons (eC (.int 9)) (aCons (eVar 0) (aCons (eC (.int 1)) aNil))))) aNil))) aNil)) (eCall sortedD (aCons (eVar 1) aNil)))) (sRet (eC (.bool false))) sNil)
  (sSeq (sIf (tB (e2 neD (eCall lenD (aCons (eCall Cr (aCons (eLst (aCons (eCall Ro (aCons (eC (.int 1)) (aCons (eC (.int 5)) (aCons (eVar 0) (aCons (eC (.int 0)) aNil))))) (aCons (eCall Ro (aCons (eC (.int 2)) (aCons (eC (.int 12)) (aCons (eVar 0) (aCons (eC (.int 3)) aNil))))) aNil))) aNil)) aNil)) (eC (.int 60)))) (sRet (eC (.bool false))) sNil)
  (sSeq (sSet 2 (eTup (aCons (eTup (aCons (eC (.int 5)) (aCons (eC (.int 5)) aNil))) aNil)))
  (sRet (eCall Re (aCons (eLst (aCons (e2 addD (eCall Ro (aCons (eC (.int 3)) (aCons (eC (.int 6)) (aCons (eVar 0) (aCons (eC (.int 0)) aNil))))) (eVar 2)) (aCons (e2 addD (eCall Ro (aCons (eC (.int 4)) (aCons (eC (.int 10)) (aCons (eVar 0) (aCons (eC (.int 2)) aNil))))) (eVar 2)) aNil))) aNil))))))) [g] = .ok (.bool true) := by
  have a5 : addD (.tuple c0) (.tuple [.tuple [.int 5, .int 5]]) = .ok (.tuple (c0 ++ [.tuple [.int 5, .int 5]])) := by
    show (if c0.length + 1 ≤ sizeLine then Res.ok (PyData.tuple (c0 ++ [.tuple [.int 5, .int 5]])) else .stuck) = _
    rw [if_pos (by rw [h0, sizeLine_eq]; decide)]
  have a6 : addD (.tuple c1) (.tuple [.tuple [.int 5, .int 5]]) = .ok (.tuple (c1 ++ [.tuple [.int 5, .int 5]])) := by
    show (if c1.length + 1 ≤ sizeLine then Res.ok (PyData.tuple (c1 ++ [.tuple [.int 5, .int 5]])) else .stuck) = _
    rw [if_pos (by rw [h10, sizeLine_eq]; decide)]
  have ln : lenD [.list l60] = .ok (.int 60) := by
    show Res.ok (PyData.int ((l60.length : Nat) : Int)) = _
    rw [hl]; rfl
  have m9 : mulD (.int 9) g = .ok sd := m9
  generalize c0 ++ [PyData.tuple [PyData.int 5, PyData.int 5]] = e0 at *
  generalize c1 ++ [PyData.tuple [PyData.int 5, PyData.int 5]] = e1' at *
  generalize sortedD = So at *
  generalize lenD = Le at *
  walk_at "ev"
  rw [h1]; walk_at "ev"
  try (rw [m9]; walk_at "ev")
  rw [ad]; walk_at "ev"
  rw [r1]; walk_at "ev"
  rw [r2]; walk_at "ev"
  rw [k1]; walk_at "ev"
  rw [hs]; walk_at "ev"
  rw [n1]; walk_at "ev"
  rw [r3]; walk_at "ev"
  rw [r4]; walk_at "ev"
  rw [k2]; walk_at "ev"
  rw [ln]; walk_at "ev"
  rw [r5]; walk_at "ev"
  rw [a5]; walk_at "ev"
  rw [r6]; walk_at "ev"
  rw [a6]; walk_at "ev"
  rw [k3]
  try rfl
theorem row_k (r g s mm : Int) (m : Nat) (hs : 0 ≤ s ∧ s ≤ 1000) (hg : 1 ≤ g ∧ g ≤ 1000) (h : mm = (m : Nat)) (hm : m ≤ 1000) : D_law_row [.int r, .int mm, .int g, .int s] = .ok (tupC (rowL r m g s)) := by rw [h]; exact row_ok r g s m hm hs hg
theorem crossS (sets : List (List Pt)) (hs : ∀ s ∈ sets, s.length ≤ 100) {G : List (List Pt)} (h : crossF [[]] sets = some G) : D_crossed [.list (sets.map tupC)] = .ok (.list (G.map tupC)) := by
  rw [cross_ok sets hs _ rfl, h]
theorem crossN (sets : List (List Pt)) (hs : ∀ s ∈ sets, s.length ≤ 100) (h : crossF [[]] sets = none) : D_crossed [.list (sets.map tupC)] = .exc tmX := by
  rw [cross_ok sets hs _ rfl, h]
theorem two_len {a b : List Pt} {n m : Nat} (h : a.length = n) (k : b.length = m) (hn : n ≤ 100) (hm : m ≤ 100) : ∀ s ∈ [a, b], s.length ≤ 100 := fun s hs => by
  rcases List.mem_cons.mp hs with rfl | hs
  · omega
  · rw [List.mem_singleton.mp hs]; omega
theorem counts_ok {g : Int} (hg : 1 ≤ g ∧ g ≤ 1000) : D_law_counts [.int g] = .ok (.bool true) := by
  obtain ⟨G, c60, l60⟩ := count_60 hg.1
  have c1 := crossS _ (two_len (row_len 0 g 0 9) (row_len 0 g 1 9) (by decide) (by decide)) (count_1 hg.1)
  have c2 := crossS _ (two_len (row_len 1 g 0 5) (row_len 2 g 3 12) (by decide) (by decide)) c60
  have l7 : (rowL 3 6 g 0 ++ [(5, 5)]).length = 7 := by rw [List.length_append, row_len]; rfl
  have l11 : (rowL 4 10 g 2 ++ [(5, 5)]).length = 11 := by rw [List.length_append, row_len]; rfl
  have c3 := refused_ok _ (crossN _ (two_len l7 l11 (by decide) (by decide)) (count_no hg.1))
  have ne : neD (.list ((srtS (dueC g)).map tupC)) (.list ((srtS (dueC g)).map tupC)) = .ok (.bool false) := by rw [ne_sets, decide_eq_true rfl]; rfl
  have so := sorted_ne (dueC g) (fun a ha => by
    rcases mem_dueC.mp ha with ⟨k, _, _, rfl⟩ | rfl
    · exact fun e => by cases e
    · exact fun e => by cases e) (by unfold dueC; rw [List.length_append, List.length_map]; show 8 + 1 ≤ 100000; decide)
  refine counts_of LD D_crossed D_law_row D_law_refused (.int g) _ ((dueC g).map tupC) (G.map tupC) (.int (9 * g)) _ _ _ _ ((rowL 3 6 g 0).map cellD) ((rowL 4 10 g 2).map cellD) (ld_ok g hg) (by show mulD (.int 9) (.int g) = _; exact mulB 20 20 (by omega) (by omega) (by decide)) ?_ (row_k 0 g 0 9 9 (by decide) hg rfl (by decide)) (row_k 0 g 1 9 9 (by decide) hg rfl (by decide)) _ so c1 ne (row_k 1 g 0 5 5 (by decide) hg rfl (by decide)) (row_k 2 g 3 12 12 (by decide) hg rfl (by decide)) c2 (by rw [List.length_map, l60]) (row_k 3 g 0 6 6 (by decide) hg rfl (by decide)) (row_k 4 g 2 10 10 (by decide) hg rfl (by decide)) (by rw [List.length_map, row_len]) (by rw [List.length_map, row_len]) ?_
  · rfl
  · have e1 : ∀ l : List Pt, tupC (l ++ [(5, 5)]) = .tuple (l.map cellD ++ [.tuple [.int 5, .int 5]]) := fun l => by
      show PyData.tuple ((l ++ [(5, 5)]).map cellD) = _
      rw [List.map_append]; rfl
    rw [List.map_cons, List.map_cons, List.map_nil, e1, e1] at c3
    exact c3
theorem pr_el (k : Nat) (n many far : Int) : (eTup (aCons (eTup (aCons (eVar 3) (aCons (e2 subD (eC (.int 0)) (eVar 2)) aNil))) (aCons (eTup (aCons (eVar 3) (aCons (e2 addD (eC (.int 1)) (e2 modD (eVar 0) (eC (.int 1000)))) aNil))) aNil))) [some (.int n), some (.int many), some (.int far), some (.int ((k : Nat) : Int))] = .ok (tupC [((k : Int), 0 - far), ((k : Int), 1 + n % 1000)]) := by
  have m1 : modD (.int n) (.int 1000) = .ok (.int (n % 1000)) := modI (by decide)
  generalize ((k : Nat) : Int) = i
  walk_at "ev"
  try (rw [m1]; walk_at "ev")
  try rfl
theorem pr_it (RG : List D → Res (List D)) (σ : DS) (m : Int) (ks : List D) (hv : eVar 1 σ = .ok (.int m)) (rg : RG [.int (6 + m)] = .ok ks) : (fun σ => ((aCons (e2 addD (eC (.int 6)) (eVar 1)) aNil) σ).bind RG) σ = .ok ks := by
  have a : addD (.int 6) (.int m) = .ok (.int (6 + m)) := rfl
  show ((aCons (e2 addD (eC (.int 6)) (eVar 1)) aNil) σ).bind RG = _
  simp only [aCons, aNil, e2, eC, hv, Res.bind_ok, a]
  exact rg
theorem pr_fin (E : DS → Res D) (n many n1 far n2 : Int) (l : D) (u0 : n % 3 = many) (u1 : n / 3 = n1) (u2 : n1 % 1000000 = far) (u3 : n1 / 1000000 = n2) (h : ∀ x, E [some (.int n2), some (.int many), some (.int far), x] = .ok l) : fnD 4 1 (sSeq (sAsg (gT 2 (gsCons (gN 0) (gsCons (gN 1) gsNil))) (eCall divmodD (aCons (eVar 0) (aCons (eC (.int 3)) aNil))))
  (sSeq (sAsg (gT 2 (gsCons (gN 0) (gsCons (gN 2) gsNil))) (eCall divmodD (aCons (eVar 0) (aCons (e2 powD (eC (.int 10)) (eC (.int 6))) aNil))))
  (sRet E))) [.int n] = .ok l := by
  have d1 := divmodI (i := n) (j := 3) (by decide) (by decide)
  have d2 := divmodI (i := n1) (j := 1000000) (by decide) (by decide)
  walk_at "ev"
  try (rw [d1]; walk_at "ev")
  try simp only [u0, u1, u2, u3]
  try simp only [show (10 : Int) ^ Int.toNat 6 = 1000000 from by decide]
  try (rw [d2]; walk_at "ev")
  try simp only [u0, u1, u2, u3]
  try walk_at "ev"
  rw [h]
  try rfl
theorem pairs_ok (n : Int) (hn : 0 ≤ n) : ∃ (far q : Int) (k : Nat), 0 ≤ far ∧ 0 ≤ q ∧ 6 ≤ k ∧ k ≤ 8 ∧ D_law_pairs [.int n] = .ok (.list ((pairL far q k).map tupC)) := by
  obtain ⟨m, hm⟩ : ∃ m : Nat, n % 3 = (m : Nat) := ⟨(n % 3).toNat, by omega⟩
  have m2 : m ≤ 2 := by omega
  have rg := rng_k (n := 6 + n % 3) (k := 6 + m) (by omega) (by omega)
  refine ⟨n / 3 % 1000000, n / 3 / 1000000 % 1000, 6 + m, by omega, by omega, by omega, by omega, ?_⟩
  refine pr_fin _ n (n % 3) (n / 3) (n / 3 % 1000000) (n / 3 / 1000000) _ rfl rfl rfl rfl fun x => ?_
  have := H80.lcG (it := fun σ => ((aCons (e2 addD (eC (.int 6)) (eVar 1)) aNil) σ).bind rng1) (k := 3) (f := eTup (aCons (eTup (aCons (eVar 3) (aCons (e2 subD (eC (.int 0)) (eVar 2)) aNil))) (aCons (eTup (aCons (eVar 3) (aCons (e2 addD (eC (.int 1)) (e2 modD (eVar 0) (eC (.int 1000)))) aNil))) aNil))) (σ := [some (.int (n / 3 / 1000000)), some (.int (n % 3)), some (.int (n / 3 % 1000000)), x]) (e := fun i : Nat => PyData.int (i : Int)) (q := fun k : Nat => tupC [((k : Int), 0 - n / 3 % 1000000), ((k : Int), 1 + n / 3 / 1000000 % 1000)]) (List.range (6 + m)) (pr_it rng1 _ (n % 3) _ rfl rg) (by rw [List.length_range]; omega) fun k _ => pr_el k _ _ _
  rw [this]
  unfold pairL
  rw [List.map_map]
  rfl
abbrev s11 (x0 x1 x2 x3 x4 x5 x6 x7 x8 x9 x10 : O) : SS := [x0, x1, x2, x3, x4, x5, x6, x7, x8, x9, x10]
def winL (f n : Int) : List Pt := (List.range 6).map fun k : Nat => (((k : Nat) : Int) * (1 + f) - 3, (((k : Nat) : Int) * ((k : Nat) : Int) + n) % 7)
theorem winL_rs {f : Int} (n : Int) (hf : 0 ≤ f) : Rs (winL f n) := by
  refine List.Pairwise.map _ (fun a b h => h) (List.Pairwise.imp ?_ (List.pairwise_lt_range (n := 6)))
  intro a b l
  refine .inl ?_
  show (a : Int) * (1 + f) - 3 < (b : Int) * (1 + f) - 3
  have := mul_lt (g := 1 + f) (a := (a : Int)) (b := (b : Int)) (by omega) (by omega)
  omega
def WL : DS → Res D := (eLc (fun σ => ((aCons (eC (.int 6)) aNil) σ).bind rng1) (gN 10) [10] tYesD (eTup (aCons (e2 subD (e2 mulD (eVar 10) (e2 addD (eC (.int 1)) (eVar 4))) (eC (.int 3))) (aCons (e2 modD (e2 addD (e2 mulD (eVar 10) (eVar 10)) (eVar 2)) (eC (.int 7))) aNil))))
theorem wl_el (i f n : Int) (hi : 0 ≤ i ∧ i ≤ 1000) (hf : 0 ≤ f ∧ f ≤ 1000000) (x0 x1 x3 x5 x6 x7 x8 x9 : Option D) : (eTup (aCons (e2 subD (e2 mulD (eVar 10) (e2 addD (eC (.int 1)) (eVar 4))) (eC (.int 3))) (aCons (e2 modD (e2 addD (e2 mulD (eVar 10) (eVar 10)) (eVar 2)) (eC (.int 7))) aNil))) [x0, x1, some (.int n), x3, some (.int f), x5, x6, x7, x8, x9, some (.int i)] = .ok (cellD (i * (1 + f) - 3, (i * i + n) % 7)) := by
  have m1 : modD (.int (i * i + n)) (.int 7) = .ok (.int ((i * i + n) % 7)) := modI (by decide)
  have u1 : mulD (.int i) (.int (1 + f)) = .ok (.int (i * (1 + f))) := mulB 20 40 (by omega) (by omega) (by decide)
  have u2 : mulD (.int i) (.int i) = .ok (.int (i * i)) := mulB 20 20 (by omega) (by omega) (by decide)
  walk_at "ev"
  rw [u1]; walk_at "ev"
  rw [u2]; walk_at "ev"
  try (rw [m1]; walk_at "ev")
  try rfl
theorem wl_ok (f n : Int) (hf : 0 ≤ f ∧ f ≤ 1000000) (x0 x1 x3 x5 x6 x7 x8 x9 x10 : Option D) : WL [x0, x1, some (.int n), x3, some (.int f), x5, x6, x7, x8, x9, x10] = .ok (.list ((winL f n).map cellD)) := by
  have rg := rng_k (n := 6) (k := 6) rfl (by decide)
  have := H80.lcG (it := fun σ => ((aCons (eC (.int 6)) aNil) σ).bind rng1) (k := 10) (f := eTup (aCons (e2 subD (e2 mulD (eVar 10) (e2 addD (eC (.int 1)) (eVar 4))) (eC (.int 3))) (aCons (e2 modD (e2 addD (e2 mulD (eVar 10) (eVar 10)) (eVar 2)) (eC (.int 7))) aNil))) (σ := [x0, x1, some (.int n), x3, some (.int f), x5, x6, x7, x8, x9, x10]) (e := fun i : Nat => PyData.int (i : Int)) (q := fun k : Nat => cellD (((k : Nat) : Int) * (1 + f) - 3, (((k : Nat) : Int) * ((k : Nat) : Int) + n) % 7)) (List.range 6) rg (by rw [List.length_range]; decide) fun k hk => wl_el ((k : Nat) : Int) f n (by have := List.mem_range.mp hk; omega) hf _ _ _ _ _ _ _ _
  unfold WL
  rw [this]
  unfold winL
  rw [List.map_map]
  rfl
theorem two_of {n : Int} : n % 2 = 0 ∨ n % 2 = 1 := by omega
theorem body_of (W : DS → Res D) (De Ss Cr Is Du : List D → Res D) (x0 : O) (c n sz n1 far n2 n3 : Int) (wd hd sd : D) (sl : List D) (Gd Dd : D) (x2 x3 x4 x5 x6 x7 x8 x9 x10 : O) (f1 : De [.int c, .int 10] = .ok (.int n)) (u0 : n % 2 = sz) (u1 : n / 2 = n1) (fq : Int) (hq : 0 < fq) (hq2 : fq.natAbs.log2 < 9000) (i1 : ixD (.list [.int 1, .int 1000000]) (.int sz) = .ok (.int fq)) (u2 : n1 % fq = far) (u3 : n1 / fq = n2) (w : ∀ y0 y1 y3 y5 y6 y7 y8 y9 y10 : Option D, W [y0, y1, some (.int n2), y3, some (.int far), y5, y6, y7, y8, y9, y10] = .ok wd) (f2 : Ss [.int n2, wd] = .ok (.tuple [.int n3, .list sl])) (lc : listD [.list sl] = .ok (.list sl)) (tc : tupleD [.list sl] = .ok (.tuple sl)) (i2 : ixD (.list [.list sl, .tuple sl]) (.int (n3 % 2)) = .ok hd) (f3 : Cr [hd] = .ok Gd) (f4 : Du [.list sl, wd] = .ok Dd) (f5 : Is [Gd, Dd] = .ok (.bool true)) (l2 : listD [hd] = .ok (.list sl)) (n5 : neD (.list sl) (.list sl) = .ok (.bool false)) :
  (sSeq (sAsg (gT 2 (gsCons (gN 2) (gsCons (gN 3) gsNil))) (eCall divmodD (aCons (eCall De (aCons (eVar 1) (aCons (eC (.int 10)) aNil))) (aCons (eC (.int 2)) aNil))))
  (sSeq (sAsg (gT 2 (gsCons (gN 2) (gsCons (gN 4) gsNil))) (eCall divmodD (aCons (eVar 2) (aCons (e2 ixD (eLst (aCons (eC (.int 1)) (aCons (e2 powD (eC (.int 10)) (eC (.int 6))) aNil))) (eVar 3)) aNil))))
  (sSeq (sSet 5 W)
  (sSeq (sAsg (gT 2 (gsCons (gN 2) (gsCons (gN 6) gsNil))) (eCall Ss (aCons (eVar 2) (aCons (eVar 5) aNil))))
  (sSeq (sSet 7 (e2 ixD (eLst (aCons (eCall listD (aCons (eVar 6) aNil)) (aCons (eCall tupleD (aCons (eVar 6) aNil)) aNil))) (e2 modD (eVar 2) (eC (.int 2)))))
  (sSeq (sSet 8 (eCall Cr (aCons (eVar 7) aNil)))
  (sIf (E3.tOr (E3.tNot (E3.tB (eCall Is (aCons (eVar 8) (aCons (eCall Du (aCons (eVar 6) (aCons (eVar 5) aNil))) aNil))))) (tB (e2 neD (eCall listD (aCons (eVar 7) aNil)) (eVar 6)))) (sRet (eC (.bool false))) sNil))))))) (s11 x0 (some (.sh (.int c))) x2 x3 x4 x5 x6 x7 x8 x9 x10) = .ok .nx (s11 x0 (some (.sh (.int c))) (some (.sh (.int n3))) (some (.sh (.int sz))) (some (.sh (.int far))) (some (.sh wd)) (some (.sh (.list sl))) (some (.sh hd)) (some (.sh Gd)) x9 x10) := by
  have d1 := divmodI (i := n) (j := 2) (by decide) (by decide)
  have d2 := divmodI (i := n1) (j := fq) hq hq2
  have m1 : modD (.int n3) (.int 2) = .ok (.int (n3 % 2)) := modI (by decide)
  simp only [s11]
  walk_at "ev"
  rw [f1]; walk_at "ev"
  try (rw [d1]; walk_at "ev")
  try simp only [u0, u1]
  try simp only [show (10 : Int) ^ Int.toNat 6 = 1000000 from by decide]
  rw [i1]; walk_at "ev"
  try (rw [d2]; walk_at "ev")
  try simp only [u2, u3]
  try walk_at "ev"
  rw [w]; walk_at "ev"
  rw [f2]; walk_at "ev"
  try (rw [lc]; walk_at "ev")
  try (rw [tc]; walk_at "ev")
  try (rw [m1]; walk_at "ev")
  rw [i2]; walk_at "ev"
  rw [f3]; walk_at "ev"
  rw [f4]; walk_at "ev"
  rw [f5]; walk_at "ev"
  rw [l2]; walk_at "ev"
  rw [n5]; walk_at "ev"
  try rfl
theorem body_ok (x0 : O) (c : Int) (x2 x3 x4 x5 x6 x7 x8 x9 x10 : O) : SN (B_law_1 (s11 x0 (some (.sh (.int c))) x2 x3 x4 x5 x6 x7 x8 x9 x10)) (fun σ => ∃ y1 y2 y3 y4 y5 y6 y7 y8 y9 y10, σ = s11 x0 y1 y2 y3 y4 y5 y6 y7 y8 y9 y10) := by
  obtain ⟨n, hn, f1⟩ := H48.deal_ok c 10 (by decide)
  rw [← deal_q] at f1
  obtain ⟨fq, h1, h2, h5, i1⟩ : ∃ fq : Int, 0 < fq ∧ fq.natAbs.log2 < 9000 ∧ fq ≤ 1000000 ∧ ixD (.list [.int 1, .int 1000000]) (.int (n % 2)) = .ok (.int fq) := by
    rcases two_of (n := n) with e | e <;> rw [e]
    · exact ⟨1, by decide, by decide, by decide, rfl⟩
    · exact ⟨1000000, by decide, by decide, by decide, rfl⟩
  have p1 : 0 ≤ n / 2 := by omega
  have p2 : 0 ≤ n / 2 % fq := Int.emod_nonneg _ (by omega)
  have p4 : n / 2 % fq ≤ 1000000 := by have := Int.emod_lt_of_pos (n / 2) h1; omega
  have p3 : 0 ≤ n / 2 / fq := Int.ediv_nonneg p1 (by omega)
  generalize e2' : n / 2 % fq = far at *
  generalize e3' : n / 2 / fq = n2 at *
  have rs := winL_rs n2 p2
  have wl : (winL far n2).length = 6 := by unfold winL; rw [List.length_map, List.length_range]
  obtain ⟨n3, F, h3, hF, lF, f2⟩ := sets_ok (winL far n2) wl n2 p3
  have co := window_ok rs wl F fun s h => (hF s h).1
  have du := ldue_ok F (winL far n2) wl (by omega)
  have is := is_sets_ok (srtS (dueB (winL far n2) fun b => hitB F (subB (winL far n2) b)))
  rw [← is_q] at is
  have sl : ∀ s ∈ F, s.length ≤ 100 := fun s h => by have := (hF s h).2; omega
  have n5 : neD (.list (F.map tupC)) (.list (F.map tupC)) = .ok (.bool false) := by rw [ne_sets, decide_eq_true rfl]; rfl
  obtain ⟨hd, i2, s2, l2⟩ : ∃ hd, ixD (.list [.list (F.map tupC), .tuple (F.map tupC)]) (.int (n3 % 2)) = .ok hd ∧ seqOf hd = .ok (F.map tupC) ∧ listD [hd] = .ok (.list (F.map tupC)) := by
    rcases two_of (n := n3) with e | e <;> rw [e]
    · exact ⟨_, rfl, rfl, rfl⟩
    · exact ⟨_, rfl, rfl, rfl⟩
  have f3 := cross_ok F sl hd s2
  rw [co] at f3
  exact ⟨_, body_of WL D_law_deal D_law_sets D_crossed D_law_is_sets D_law_due x0 c n (n % 2) (n / 2) far n2 n3 _ hd .none _ _ _ x2 x3 x4 x5 x6 x7 x8 x9 x10 f1 rfl rfl fq h1 h2 i1 e2' e3' (fun y0 y1 y3 y5 y6 y7 y8 y9 y10 => wl_ok far n2 ⟨p2, p4⟩ y0 y1 y3 y5 y6 y7 y8 y9 y10) f2 rfl rfl i2 f3 du is l2 n5, _, _, _, _, _, _, _, _, _, _, rfl⟩
theorem sum_ints (ns : List Int) : sumD [.list (ns.map .int)] = .ok (.int ns.sum) := by
  show (match intsOf (ns.map .int) with
    | some ns => Res.ok (PyData.int ns.sum)
    | none => .stuck) = _
  rw [intsOf_map]
theorem tail_of (De Co Pa Re Cr : List D → Res D) (sc : D) (sm n : Int) (pl : List D) (g32 : List D) (x1 x2 x3 x4 x5 x6 x7 x8 x9 x10 : O) (h1 : sumD [sc] = .ok (.int sm)) (h2 : De [.int sm, .int 6] = .ok (.int n)) (g : Int) (hg : n % 1000 = g) (h3 : Co [.int (1 + g)] = .ok (.bool true)) (h4 : Pa [.int n] = .ok (.list pl)) (h5 : Re [.list pl] = .ok (.bool true)) (pe : List D) (a1 : addD (.list pl) (.list [.tuple []]) = .ok (.list pe)) (h6 : Re [.list pe] = .ok (.bool true)) (p6 p5 ep : List D) (c6 : slD (.list pl) none (some 6) = .ok (.list p6)) (h7 : Re [.list p6] = .ok (.bool true)) (a2 : addD (.list [.tuple []]) (.list pl) = .ok (.list ep)) (h8 : Cr [.list ep] = .ok (.list [])) (c5 : slD (.list pl) none (some 5) = .ok (.list p5)) (h9 : Cr [.list p5] = .ok (.list g32)) (hl : g32.length = 32) :
  (sSeq (sSet 2 (eCall De (aCons (eCall sumD (aCons (eVar 0) aNil)) (aCons (eC (.int 6)) aNil))))
  (sSeq (sIf (E3.tNot (E3.tB (eCall Co (aCons (e2 addD (eC (.int 1)) (e2 modD (eVar 2) (eC (.int 1000)))) aNil)))) (sRet (eC (.bool false))) sNil)
  (sSeq (sSet 9 (eCall Pa (aCons (eVar 2) aNil)))
  (sSeq (sIf (E3.tOr (E3.tNot (E3.tB (eCall Re (aCons (eVar 9) aNil)))) (E3.tOr (E3.tNot (E3.tB (eCall Re (aCons (e2 addD (eVar 9) (eLst (aCons (eTup aNil) aNil))) aNil)))) (E3.tNot (E3.tB (eCall Re (aCons (eSl (eVar 9) oNone (oSome (eC (.int 6)))) aNil)))))) (sRet (eC (.bool false))) sNil)
  (sRet (eAnd (e2 eqD (eCall Cr (aCons (e2 addD (eLst (aCons (eTup aNil) aNil)) (eVar 9)) aNil)) (eLst aNil)) (e2 eqD (eCall lenD (aCons (eCall Cr (aCons (eSl (eVar 9) oNone (oSome (eC (.int 5)))) aNil)) aNil)) (eC (.int 32))))))))) (s11 (some (.sh sc)) x1 x2 x3 x4 x5 x6 x7 x8 x9 x10) = .ok (.rt (.bool true)) (s11 (some (.sh sc)) x1 (some (.sh (.int n))) x3 x4 x5 x6 x7 x8 (some (.sh (.list pl))) x10) := by
  have m1 : modD (.int n) (.int 1000) = .ok (.int (n % 1000)) := modI (by decide)
  rw [hg] at m1
  have ln : lenD [.list g32] = .ok (.int 32) := by
    show Res.ok (PyData.int ((g32.length : Nat) : Int)) = _
    rw [hl]; rfl
  have e0 : eqD (.list []) (.list []) = .ok (.bool true) := by have := eq_sets [] []; rw [decide_eq_true rfl] at this; exact this
  have e32 : eqD (.int 32) (.int 32) = .ok (.bool true) := rfl
  generalize sumD = Su at *
  generalize lenD = Le at *
  simp only [s11]
  walk_at "ev"
  rw [h1]; walk_at "ev"
  rw [h2]; walk_at "ev"
  try (rw [m1]; walk_at "ev")
  try simp only [hg]
  rw [h3]; walk_at "ev"
  rw [h4]; walk_at "ev"
  rw [h5]; walk_at "ev"
  rw [a1]; walk_at "ev"
  rw [h6]; walk_at "ev"
  rw [c6]; walk_at "ev"
  rw [h7]; walk_at "ev"
  rw [a2]; walk_at "ev"
  rw [h8]; walk_at "ev"
  try (rw [e0]; walk_at "ev")
  rw [c5]; walk_at "ev"
  rw [h9]; walk_at "ev"
  rw [ln]; walk_at "ev"
  try rfl
theorem cross_empty (ps : List (List Pt)) : crossF [[]] ([] :: ps) = some [] := by
  rw [crossF, show joinS [[]] (([] : List Pt).map fun s => [s]) = [] from rfl]
  have : lookS [] = some [] := by
    unfold lookS srtN
    rw [List.mergeSort_nil]
    show some (srtS []) = _
    unfold srtS
    rw [List.mergeSort_nil]
  rw [this]
  exact cross_nil ps
theorem tail_ok (ns : List Int) (x1 x2 x3 x4 x5 x6 x7 x8 x9 x10 : O) : ∃ σ, T_law_1 (s11 (some (.sh (.list (ns.map .int)))) x1 x2 x3 x4 x5 x6 x7 x8 x9 x10) = .ok (.rt (.bool true)) σ := by
  obtain ⟨n, hn, f1⟩ := H48.deal_ok ns.sum 6 (by decide)
  rw [← deal_q] at f1
  have co := counts_ok (g := 1 + n % 1000) ⟨by omega, by omega⟩
  obtain ⟨far, q, k, h1, h2, h3, h4, pa⟩ := pairs_ok n hn
  have lk : ∀ k : Nat, (pairL far q k).length = k := fun k => by unfold pairL; rw [List.length_map, List.length_range]
  have l2 : ∀ k : Nat, ∀ s ∈ pairL far q k, s.length ≤ 100 := fun k s h => by have := (pair_two h1 h2 s h).1; omega
  have six := six_pairs h1 h2 k h3 []
  rw [List.append_nil] at six
  have r1 := refused_ok _ (crossN _ (l2 k) six)
  have le : ∀ s ∈ pairL far q k ++ [[]], s.length ≤ 100 := fun s h => by
    rcases List.mem_append.mp h with h | h
    · exact l2 k s h
    · rw [List.mem_singleton.mp h]; exact Nat.zero_le _
  have r2 := refused_ok _ (crossN _ le (six_pairs h1 h2 k h3 [[]]))
  have s6 := six_pairs h1 h2 6 (Nat.le_refl _) []
  rw [List.append_nil] at s6
  have r3 := refused_ok _ (crossN _ (l2 6) s6)
  have le2 : ∀ s ∈ ([] :: pairL far q k), s.length ≤ 100 := fun s h => by
    rcases List.mem_cons.mp h with rfl | h
    · exact Nat.zero_le _
    · exact l2 k s h
  have r4 := crossS _ le2 (cross_empty (pairL far q k))
  obtain ⟨G, c5, _, lG, _⟩ := five_pairs h1 h2 []
  rw [List.append_nil] at c5
  have r5 := crossS _ (l2 5) (c5.trans (rfl : crossF G [] = some G))
  have cut : ∀ m : Nat, m ≤ k → slD (.list ((pairL far q k).map tupC)) none (some ((m : Nat) : Int)) = .ok (.list ((pairL far q m).map tupC)) := fun m h => by
    show Res.ok (PyData.list (E3.cutD ((pairL far q k).map tupC) none (some ((m : Nat) : Int)))) = _
    rw [H6.cut_take, ← List.map_take, pair_take far q k m h]
  refine ⟨_, tail_of D_law_deal D_law_counts D_law_pairs D_law_refused D_crossed _ ns.sum n ((pairL far q k).map tupC) (G.map tupC) x1 x2 x3 x4 x5 x6 x7 x8 x9 x10 (sum_ints ns) f1 (n % 1000) rfl co pa r1 ((pairL far q k ++ [[]]).map tupC) ?_ r2 ((pairL far q 6).map tupC) ((pairL far q 5).map tupC) (([] :: pairL far q k).map tupC) (cut 6 h3) r3 ?_ r4 (cut 5 (by omega)) r5 (by rw [List.length_map, lG])⟩
  · show (if _ then _ else _) = _
    rw [if_pos (by rw [List.length_map, lk, sizeLine_eq]; show k + 1 ≤ _; omega), List.map_append]
    rfl
  · show (if _ then _ else _) = _
    rw [if_pos (by rw [List.length_map, lk, sizeLine_eq]; show 1 + k ≤ _; omega), List.map_cons]
    rfl
theorem it_ok (ns : List Int) (hn : ns.length ≤ 63) : ∃ ms : List Int, I_law_1 (mask (startF 11 [.list (ns.map .int)])) = .ok (ms.map .int) := by
  obtain ⟨ms, e, _⟩ := E3.cut_cat ns [0] none (some 12) (by have := sizeLine_eq; simp only [List.length_cons, List.length_nil]; omega)
  have e' : addD (.list (cutD (ns.map PyData.int) none (some 12))) (.list [.int 0]) = .ok (.list (ms.map PyData.int)) := e
  refine ⟨ms, ?_⟩
  unfold I_law_1
  walk_at "ev"
  try rw [show slD (.list (ns.map PyData.int)) none (some 12) = .ok (.list (cutD (ns.map PyData.int) none (some 12))) from rfl]
  try walk_at "ev"
  rw [e']
  try walk_at "ev"
theorem lawq : D_law = fnD 11 1 (sSeq (sFor I_law_1 (gN 1) B_law_1) T_law_1) := rfl
theorem law_fin (FF TT : SF) (a d : D) (σ τ : SS) (f : FF (startF 11 [a]) = .ok .nx σ) (t : TT σ = .ok (.rt d) τ) : fnD 11 1 (sSeq FF TT) [a] = .ok d := by
  unfold fnD
  rw [if_pos (show [a].length = 1 from rfl)]
  unfold sSeq
  rw [f]
  show endF (TT σ) = _
  rw [t]
  rfl
theorem law_for (it : DS → Res (List D)) (B : SF) (σ : SS) (ks : List D) (r : SR) (h : it (mask σ) = .ok ks) (e : forS (gN 1) B ks σ = r) : sFor it (gN 1) B σ = r := by
  unfold sFor
  rw [h]
  exact e
theorem law_true (ns : List Int) (hn : ns.length ≤ 63) : D_law [.list (ns.map .int)] = .ok (.bool true) := by
  obtain ⟨ms, it⟩ := it_ok ns hn
  obtain ⟨σ', e, y1, y2, y3, y4, y5, y6, y7, y8, y9, y10, rfl⟩ := loop_ints (i := 1) (body := B_law_1) (Inv := fun σ => ∃ y1 y2 y3 y4 y5 y6 y7 y8 y9 y10, σ = s11 (some (.sh (.list (ns.map .int)))) y1 y2 y3 y4 y5 y6 y7 y8 y9 y10) ms (startF 11 [.list (ns.map .int)]) ⟨none, none, none, none, none, none, none, none, none, none, rfl⟩ (by
    rintro m σ ⟨y1, y2, y3, y4, y5, y6, y7, y8, y9, y10, rfl⟩
    exact body_ok _ m y2 y3 y4 y5 y6 y7 y8 y9 y10)
  obtain ⟨τ, t⟩ := tail_ok ns y1 y2 y3 y4 y5 y6 y7 y8 y9 y10
  rw [lawq]
  exact law_fin _ _ _ _ _ _ (law_for _ _ _ _ _ it e) t
end K54
namespace K54
open PySem PySem.Spec PyProof.Rows L2 E3
theorem all_mk {l : PySem.W.OpenLaw} {w : World} {K : PySem.W.Frag} {h : Heap} {mg : Str → Option Value} {fa : Addr} (X : K.In h) (G : h.Ns mainGlobals mg) (hfa : mg "law" = some (.ref fa))
    {f_law_deal f_law_pairs f_law_subset f_law_sets f_holds_any f_looked f_rising f_joined f_crossed f_law_refused f_law_row f_law_counts f_law_whole f_law_is_sets f_law_less f_law_due f_law c_TooMany c_MossError : Addr} {od_law_deal od_law_pairs od_law_subset od_law_sets od_holds_any od_looked od_rising od_joined od_crossed od_law_refused od_law_row od_law_counts od_law_whole od_law_is_sets od_law_less od_law_due od_law an_law_deal an_law_pairs an_law_subset an_law_sets an_holds_any an_looked an_rising an_joined an_crossed an_law_refused an_law_row an_law_counts an_law_whole an_law_is_sets an_law_less an_law_due an_law : Option Addr} {sl_law_deal sl_law_pairs sl_law_subset sl_law_sets sl_holds_any sl_looked sl_rising sl_joined sl_crossed sl_law_refused sl_law_row sl_law_counts sl_law_whole sl_law_is_sets sl_law_less sl_law_due sl_law : Array (Option Value)} {oc_law_deal oc_law_pairs oc_law_subset oc_law_sets oc_holds_any oc_looked oc_rising oc_joined oc_crossed oc_law_refused oc_law_row oc_law_counts oc_law_whole oc_law_is_sets oc_law_less oc_law_due oc_law kV_law_deal kV_law_pairs kV_law_subset kV_law_sets kV_holds_any kV_looked kV_rising kV_joined kV_crossed kV_law_refused kV_law_row kV_law_counts kV_law_whole kV_law_is_sets kV_law_less kV_law_due kV_law dc_law_deal dc_law_pairs dc_law_subset dc_law_sets dc_holds_any dc_looked dc_rising dc_joined dc_crossed dc_law_refused dc_law_row dc_law_counts dc_law_whole dc_law_is_sets dc_law_less dc_law_due dc_law pm_law_deal pm_law_pairs pm_law_subset pm_law_sets pm_holds_any pm_looked pm_rising pm_joined pm_crossed pm_law_refused pm_law_row pm_law_counts pm_law_whole pm_law_is_sets pm_law_less pm_law_due pm_law cd_law_deal cd_law_pairs cd_law_subset cd_law_sets cd_holds_any cd_looked cd_rising cd_joined cd_crossed cd_law_refused cd_law_row cd_law_counts cd_law_whole cd_law_is_sets cd_law_less cd_law_due cd_law ct_law_deal ct_law_pairs ct_law_subset ct_law_sets ct_holds_any ct_looked ct_rising ct_joined ct_crossed ct_law_refused ct_law_row ct_law_counts ct_law_whole ct_law_is_sets ct_law_less ct_law_due ct_law : Value}
    (a_law_deal : PySem.W.nsIn K mainGlobals "_law_deal" = some (some (.ref f_law_deal)))
    (l_law_deal : K.lookup f_law_deal = some ⟨oc_law_deal, od_law_deal, .func (PySem.W.fnOf "_law_deal" "_law_deal" (defArgs s_law_deal) (defBody s_law_deal) (defScope s_law_deal) .none kV_law_deal dc_law_deal pm_law_deal an_law_deal cd_law_deal ct_law_deal), sl_law_deal⟩)
    (c_law_deal : PySem.W.codeIn K cd_law_deal "_law_deal" = true)
    (k_law_deal : PySem.W.keepIn K (.ref f_law_deal) = true)
    (a_law_pairs : PySem.W.nsIn K mainGlobals "_law_pairs" = some (some (.ref f_law_pairs)))
    (l_law_pairs : K.lookup f_law_pairs = some ⟨oc_law_pairs, od_law_pairs, .func (PySem.W.fnOf "_law_pairs" "_law_pairs" (defArgs s_law_pairs) (defBody s_law_pairs) (defScope s_law_pairs) .none kV_law_pairs dc_law_pairs pm_law_pairs an_law_pairs cd_law_pairs ct_law_pairs), sl_law_pairs⟩)
    (c_law_pairs : PySem.W.codeIn K cd_law_pairs "_law_pairs" = true)
    (k_law_pairs : PySem.W.keepIn K (.ref f_law_pairs) = true)
    (a_law_subset : PySem.W.nsIn K mainGlobals "_law_subset" = some (some (.ref f_law_subset)))
    (l_law_subset : K.lookup f_law_subset = some ⟨oc_law_subset, od_law_subset, .func (PySem.W.fnOf "_law_subset" "_law_subset" (defArgs s_law_subset) (defBody s_law_subset) (defScope s_law_subset) .none kV_law_subset dc_law_subset pm_law_subset an_law_subset cd_law_subset ct_law_subset), sl_law_subset⟩)
    (c_law_subset : PySem.W.codeIn K cd_law_subset "_law_subset" = true)
    (k_law_subset : PySem.W.keepIn K (.ref f_law_subset) = true)
    (a_law_sets : PySem.W.nsIn K mainGlobals "_law_sets" = some (some (.ref f_law_sets)))
    (l_law_sets : K.lookup f_law_sets = some ⟨oc_law_sets, od_law_sets, .func (PySem.W.fnOf "_law_sets" "_law_sets" (defArgs s_law_sets) (defBody s_law_sets) (defScope s_law_sets) .none kV_law_sets dc_law_sets pm_law_sets an_law_sets cd_law_sets ct_law_sets), sl_law_sets⟩)
    (c_law_sets : PySem.W.codeIn K cd_law_sets "_law_sets" = true)
    (k_law_sets : PySem.W.keepIn K (.ref f_law_sets) = true)
    (a_holds_any : PySem.W.nsIn K mainGlobals "holds_any" = some (some (.ref f_holds_any)))
    (l_holds_any : K.lookup f_holds_any = some ⟨oc_holds_any, od_holds_any, .func (PySem.W.fnOf "holds_any" "holds_any" (defArgs s_holds_any) (defBody s_holds_any) (defScope s_holds_any) .none kV_holds_any dc_holds_any pm_holds_any an_holds_any cd_holds_any ct_holds_any), sl_holds_any⟩)
    (c_holds_any : PySem.W.codeIn K cd_holds_any "holds_any" = true)
    (k_holds_any : PySem.W.keepIn K (.ref f_holds_any) = true)
    (a_looked : PySem.W.nsIn K mainGlobals "looked" = some (some (.ref f_looked)))
    (l_looked : K.lookup f_looked = some ⟨oc_looked, od_looked, .func (PySem.W.fnOf "looked" "looked" (defArgs s_looked) (defBody s_looked) (defScope s_looked) .none kV_looked dc_looked pm_looked an_looked cd_looked ct_looked), sl_looked⟩)
    (c_looked : PySem.W.codeIn K cd_looked "looked" = true)
    (k_looked : PySem.W.keepIn K (.ref f_looked) = true)
    (a_rising : PySem.W.nsIn K mainGlobals "rising" = some (some (.ref f_rising)))
    (l_rising : K.lookup f_rising = some ⟨oc_rising, od_rising, .func (PySem.W.fnOf "rising" "rising" (defArgs s_rising) (defBody s_rising) (defScope s_rising) .none kV_rising dc_rising pm_rising an_rising cd_rising ct_rising), sl_rising⟩)
    (c_rising : PySem.W.codeIn K cd_rising "rising" = true)
    (k_rising : PySem.W.keepIn K (.ref f_rising) = true)
    (a_joined : PySem.W.nsIn K mainGlobals "joined" = some (some (.ref f_joined)))
    (l_joined : K.lookup f_joined = some ⟨oc_joined, od_joined, .func (PySem.W.fnOf "joined" "joined" (defArgs s_joined) (defBody s_joined) (defScope s_joined) .none kV_joined dc_joined pm_joined an_joined cd_joined ct_joined), sl_joined⟩)
    (c_joined : PySem.W.codeIn K cd_joined "joined" = true)
    (k_joined : PySem.W.keepIn K (.ref f_joined) = true)
    (a_crossed : PySem.W.nsIn K mainGlobals "crossed" = some (some (.ref f_crossed)))
    (l_crossed : K.lookup f_crossed = some ⟨oc_crossed, od_crossed, .func (PySem.W.fnOf "crossed" "crossed" (defArgs s_crossed) (defBody s_crossed) (defScope s_crossed) .none kV_crossed dc_crossed pm_crossed an_crossed cd_crossed ct_crossed), sl_crossed⟩)
    (c_crossed : PySem.W.codeIn K cd_crossed "crossed" = true)
    (k_crossed : PySem.W.keepIn K (.ref f_crossed) = true)
    (a_law_refused : PySem.W.nsIn K mainGlobals "_law_refused" = some (some (.ref f_law_refused)))
    (l_law_refused : K.lookup f_law_refused = some ⟨oc_law_refused, od_law_refused, .func (PySem.W.fnOf "_law_refused" "_law_refused" (defArgs s_law_refused) (defBody s_law_refused) (defScope s_law_refused) .none kV_law_refused dc_law_refused pm_law_refused an_law_refused cd_law_refused ct_law_refused), sl_law_refused⟩)
    (c_law_refused : PySem.W.codeIn K cd_law_refused "_law_refused" = true)
    (k_law_refused : PySem.W.keepIn K (.ref f_law_refused) = true)
    (a_law_row : PySem.W.nsIn K mainGlobals "_law_row" = some (some (.ref f_law_row)))
    (l_law_row : K.lookup f_law_row = some ⟨oc_law_row, od_law_row, .func (PySem.W.fnOf "_law_row" "_law_row" (defArgs s_law_row) (defBody s_law_row) (defScope s_law_row) .none kV_law_row dc_law_row pm_law_row an_law_row cd_law_row ct_law_row), sl_law_row⟩)
    (c_law_row : PySem.W.codeIn K cd_law_row "_law_row" = true)
    (k_law_row : PySem.W.keepIn K (.ref f_law_row) = true)
    (a_law_counts : PySem.W.nsIn K mainGlobals "_law_counts" = some (some (.ref f_law_counts)))
    (l_law_counts : K.lookup f_law_counts = some ⟨oc_law_counts, od_law_counts, .func (PySem.W.fnOf "_law_counts" "_law_counts" (defArgs s_law_counts) (defBody s_law_counts) (defScope s_law_counts) .none kV_law_counts dc_law_counts pm_law_counts an_law_counts cd_law_counts ct_law_counts), sl_law_counts⟩)
    (c_law_counts : PySem.W.codeIn K cd_law_counts "_law_counts" = true)
    (k_law_counts : PySem.W.keepIn K (.ref f_law_counts) = true)
    (a_law_whole : PySem.W.nsIn K mainGlobals "_law_whole" = some (some (.ref f_law_whole)))
    (l_law_whole : K.lookup f_law_whole = some ⟨oc_law_whole, od_law_whole, .func (PySem.W.fnOf "_law_whole" "_law_whole" (defArgs s_law_whole) (defBody s_law_whole) (defScope s_law_whole) .none kV_law_whole dc_law_whole pm_law_whole an_law_whole cd_law_whole ct_law_whole), sl_law_whole⟩)
    (c_law_whole : PySem.W.codeIn K cd_law_whole "_law_whole" = true)
    (k_law_whole : PySem.W.keepIn K (.ref f_law_whole) = true)
    (a_law_is_sets : PySem.W.nsIn K mainGlobals "_law_is_sets" = some (some (.ref f_law_is_sets)))
    (l_law_is_sets : K.lookup f_law_is_sets = some ⟨oc_law_is_sets, od_law_is_sets, .func (PySem.W.fnOf "_law_is_sets" "_law_is_sets" (defArgs s_law_is_sets) (defBody s_law_is_sets) (defScope s_law_is_sets) .none kV_law_is_sets dc_law_is_sets pm_law_is_sets an_law_is_sets cd_law_is_sets ct_law_is_sets), sl_law_is_sets⟩)
    (c_law_is_sets : PySem.W.codeIn K cd_law_is_sets "_law_is_sets" = true)
    (k_law_is_sets : PySem.W.keepIn K (.ref f_law_is_sets) = true)
    (a_law_less : PySem.W.nsIn K mainGlobals "_law_less" = some (some (.ref f_law_less)))
    (l_law_less : K.lookup f_law_less = some ⟨oc_law_less, od_law_less, .func (PySem.W.fnOf "_law_less" "_law_less" (defArgs s_law_less) (defBody s_law_less) (defScope s_law_less) .none kV_law_less dc_law_less pm_law_less an_law_less cd_law_less ct_law_less), sl_law_less⟩)
    (c_law_less : PySem.W.codeIn K cd_law_less "_law_less" = true)
    (k_law_less : PySem.W.keepIn K (.ref f_law_less) = true)
    (a_law_due : PySem.W.nsIn K mainGlobals "_law_due" = some (some (.ref f_law_due)))
    (l_law_due : K.lookup f_law_due = some ⟨oc_law_due, od_law_due, .func (PySem.W.fnOf "_law_due" "_law_due" (defArgs s_law_due) (defBody s_law_due) (defScope s_law_due) .none kV_law_due dc_law_due pm_law_due an_law_due cd_law_due ct_law_due), sl_law_due⟩)
    (c_law_due : PySem.W.codeIn K cd_law_due "_law_due" = true)
    (k_law_due : PySem.W.keepIn K (.ref f_law_due) = true)
    (a_law : PySem.W.nsIn K mainGlobals "law" = some (some (.ref f_law)))
    (l_law : K.lookup f_law = some ⟨oc_law, od_law, .func (PySem.W.fnOf "law" "law" (defArgs s_law) (defBody s_law) (defScope s_law) .none kV_law dc_law pm_law an_law cd_law ct_law), sl_law⟩)
    (c_law : PySem.W.codeIn K cd_law "law" = true)
    (k_law : PySem.W.keepIn K (.ref f_law) = true)
    (nc_TooMany : PySem.W.nsIn K mainGlobals "TooMany" = some (some (.ref c_TooMany)))
    (nc_MossError : PySem.W.nsIn K mainGlobals "MossError" = some (some (.ref c_MossError)))
    (hd_MossError : PySem.W.hasDictIn K c_MossError = true)
    (sb_MossError : PySem.W.subIn K (.ref c_MossError) (.type "BaseException") = some true)
    (ty_MossError : PySem.W.typeIn K (.ref c_MossError) = some (.type "type"))
    (hd_TooMany : PySem.W.hasDictIn K c_TooMany = true)
    (sb_TooMany : PySem.W.subIn K (.ref c_TooMany) (.type "BaseException") = some true)
    (ty_TooMany : PySem.W.typeIn K (.ref c_TooMany) = some (.type "type"))
    (ex_TooMany : PySem.W.excIn K c_TooMany EMRO "ValueError.__new__" = true)
    (kc_TooMany : PySem.W.keepIn K (.ref c_TooMany) = true)
    (EX_TooMany : ExcC K c_TooMany)
    (su_TooMany_MossError : PySem.W.subIn K (.ref c_TooMany) (.ref c_MossError) = some true)
    (su_TooMany_TooMany : PySem.W.subIn K (.ref c_TooMany) (.ref c_TooMany) = some true)
    (sn_TooMany : PySem.W.subIn K (.type "NoneType") (.ref c_TooMany) = some false)
    (z_all : PySem.W.nsIn K mainGlobals "all" = some none)
    (z_any : PySem.W.nsIn K mainGlobals "any" = some none)
    (z_bool : PySem.W.nsIn K mainGlobals "bool" = some none)
    (z_divmod : PySem.W.nsIn K mainGlobals "divmod" = some none)
    (z_int : PySem.W.nsIn K mainGlobals "int" = some none)
    (z_isinstance : PySem.W.nsIn K mainGlobals "isinstance" = some none)
    (z_len : PySem.W.nsIn K mainGlobals "len" = some none)
    (z_list : PySem.W.nsIn K mainGlobals "list" = some none)
    (z_range : PySem.W.nsIn K mainGlobals "range" = some none)
    (z_set : PySem.W.nsIn K mainGlobals "set" = some none)
    (z_sorted : PySem.W.nsIn K mainGlobals "sorted" = some none)
    (z_sum : PySem.W.nsIn K mainGlobals "sum" = some none)
    (z_tuple : PySem.W.nsIn K mainGlobals "tuple" = some none)
    {t_MOST_SETS : Tok} (n_MOST_SETS : PySem.W.nsIn K mainGlobals "MOST_SETS" = some (some (.int 60 t_MOST_SETS)))
    {t_MOST_STEPS : Tok} (n_MOST_STEPS : PySem.W.nsIn K mainGlobals "MOST_STEPS" = some (some (.int 400 t_MOST_STEPS))) :
    ∃ fd : FuncData, (∀ (s : Shared) (v : Value), BindsTo s fd ⟨[v], []⟩ [("script", v)]) ∧ ∀ base : Heap, K.In base → base.Ns mainGlobals mg → FnD l.prog w K mg base 6 fa fd ["script"] D_law := by
  have e := hfa.symm.trans (PySem.W.mg_of X G a_law)
  cases e
  have F_law_deal := fun_mk (st := s_law_deal) l_law_deal c_law_deal k_law_deal
  have b_law_deal := F_law_deal.binds (ps := ["cell", "many"]) fun _ _ _ _ _ _ us hl => match us, hl with | [_, _], _ => rfl
  have F_law_pairs := fun_mk (st := s_law_pairs) l_law_pairs c_law_pairs k_law_pairs
  have b_law_pairs := F_law_pairs.binds (ps := ["number"]) fun _ _ _ _ _ _ us hl => match us, hl with | [_], _ => rfl
  have F_law_subset := fun_mk (st := s_law_subset) l_law_subset c_law_subset k_law_subset
  have b_law_subset := F_law_subset.binds (ps := ["window", "bits"]) fun _ _ _ _ _ _ us hl => match us, hl with | [_, _], _ => rfl
  have F_law_sets := fun_mk (st := s_law_sets) l_law_sets c_law_sets k_law_sets
  have b_law_sets := F_law_sets.binds (ps := ["number", "window"]) fun _ _ _ _ _ _ us hl => match us, hl with | [_, _], _ => rfl
  have F_holds_any := fun_mk (st := s_holds_any) l_holds_any c_holds_any k_holds_any
  have b_holds_any := F_holds_any.binds (ps := ["one", "sets"]) fun _ _ _ _ _ _ us hl => match us, hl with | [_, _], _ => rfl
  have F_looked := fun_mk (st := s_looked) l_looked c_looked k_looked
  have b_looked := F_looked.binds (ps := ["sets"]) fun _ _ _ _ _ _ us hl => match us, hl with | [_], _ => rfl
  have F_rising := fun_mk (st := s_rising) l_rising c_rising k_rising
  have b_rising := F_rising.binds (ps := ["cells"]) fun _ _ _ _ _ _ us hl => match us, hl with | [_], _ => rfl
  have F_joined := fun_mk (st := s_joined) l_joined c_joined k_joined
  have b_joined := F_joined.binds (ps := ["ones", "others"]) fun _ _ _ _ _ _ us hl => match us, hl with | [_, _], _ => rfl
  have F_crossed := fun_mk (st := s_crossed) l_crossed c_crossed k_crossed
  have b_crossed := F_crossed.binds (ps := ["sets"]) fun _ _ _ _ _ _ us hl => match us, hl with | [_], _ => rfl
  have F_law_refused := fun_mk (st := s_law_refused) l_law_refused c_law_refused k_law_refused
  have b_law_refused := F_law_refused.binds (ps := ["sets"]) fun _ _ _ _ _ _ us hl => match us, hl with | [_], _ => rfl
  have F_law_row := fun_mk (st := s_law_row) l_law_row c_law_row k_law_row
  have b_law_row := F_law_row.binds (ps := ["row", "many", "gap", "start"]) fun _ _ _ _ _ _ us hl => match us, hl with | [_, _, _, _], _ => rfl
  have F_law_counts := fun_mk (st := s_law_counts) l_law_counts c_law_counts k_law_counts
  have b_law_counts := F_law_counts.binds (ps := ["gap"]) fun _ _ _ _ _ _ us hl => match us, hl with | [_], _ => rfl
  have F_law_whole := fun_mk (st := s_law_whole) l_law_whole c_law_whole k_law_whole
  have b_law_whole := F_law_whole.binds (ps := ["found"]) fun _ _ _ _ _ _ us hl => match us, hl with | [_], _ => rfl
  have F_law_is_sets := fun_mk (st := s_law_is_sets) l_law_is_sets c_law_is_sets k_law_is_sets
  have b_law_is_sets := F_law_is_sets.binds (ps := ["found", "due"]) fun _ _ _ _ _ _ us hl => match us, hl with | [_, _], _ => rfl
  have F_law_less := fun_mk (st := s_law_less) l_law_less c_law_less k_law_less
  have b_law_less := F_law_less.binds (ps := ["good", "bits", "many"]) fun _ _ _ _ _ _ us hl => match us, hl with | [_, _, _], _ => rfl
  have F_law_due := fun_mk (st := s_law_due) l_law_due c_law_due k_law_due
  have b_law_due := F_law_due.binds (ps := ["sets", "window"]) fun _ _ _ _ _ _ us hl => match us, hl with | [_, _], _ => rfl
  have F_law := fun_mk (st := s_law) l_law c_law k_law
  have b_law := F_law.binds (ps := ["script"]) fun _ _ _ _ _ _ us hl => match us, hl with | [_], _ => rfl
  have T : Txt K mg := ⟨f_law_deal, _, F_law_deal, PySem.W.mg_of X G a_law_deal, b_law_deal, f_law_pairs, _, F_law_pairs, PySem.W.mg_of X G a_law_pairs, b_law_pairs, f_law_subset, _, F_law_subset, PySem.W.mg_of X G a_law_subset, b_law_subset, f_law_sets, _, F_law_sets, PySem.W.mg_of X G a_law_sets, b_law_sets, f_holds_any, _, F_holds_any, PySem.W.mg_of X G a_holds_any, b_holds_any, f_looked, _, F_looked, PySem.W.mg_of X G a_looked, b_looked, f_rising, _, F_rising, PySem.W.mg_of X G a_rising, b_rising, f_joined, _, F_joined, PySem.W.mg_of X G a_joined, b_joined, f_crossed, _, F_crossed, PySem.W.mg_of X G a_crossed, b_crossed, f_law_refused, _, F_law_refused, PySem.W.mg_of X G a_law_refused, b_law_refused, f_law_row, _, F_law_row, PySem.W.mg_of X G a_law_row, b_law_row, f_law_counts, _, F_law_counts, PySem.W.mg_of X G a_law_counts, b_law_counts, f_law_whole, _, F_law_whole, PySem.W.mg_of X G a_law_whole, b_law_whole, f_law_is_sets, _, F_law_is_sets, PySem.W.mg_of X G a_law_is_sets, b_law_is_sets, f_law_less, _, F_law_less, PySem.W.mg_of X G a_law_less, b_law_less, f_law_due, _, F_law_due, PySem.W.mg_of X G a_law_due, b_law_due, fa, _, F_law, PySem.W.mg_of X G a_law, b_law, PySem.W.mg_none_of X G z_all, PySem.W.mg_none_of X G z_any, PySem.W.mg_none_of X G z_bool, PySem.W.mg_none_of X G z_divmod, PySem.W.mg_none_of X G z_int, PySem.W.mg_none_of X G z_isinstance, PySem.W.mg_none_of X G z_len, PySem.W.mg_none_of X G z_list, PySem.W.mg_none_of X G z_range, PySem.W.mg_none_of X G z_set, PySem.W.mg_none_of X G z_sorted, PySem.W.mg_none_of X G z_sum, PySem.W.mg_none_of X G z_tuple, _, PySem.W.mg_of X G n_MOST_SETS, _, PySem.W.mg_of X G n_MOST_STEPS, c_TooMany, PySem.W.mg_of X G nc_TooMany, c_MossError, PySem.W.mg_of X G nc_MossError, nc_TooMany, ex_TooMany, kc_TooMany, sb_TooMany, ty_TooMany, (look_cons ⟨_, nc_TooMany, PySem.W.mg_of X G nc_TooMany, PySem.W.exm_ref sb_MossError hd_MossError ty_MossError su_TooMany_MossError⟩ look_nil), ⟨(kit_refN hd_TooMany ty_TooMany sn_TooMany), (look_cons ⟨_, nc_TooMany, EX_TooMany, (kit_ref hd_TooMany ty_TooMany su_TooMany_TooMany (fun h => nomatch h))⟩ look_nil)⟩⟩
  exact ⟨PySem.W.fnOf "law" "law" (defArgs s_law) (defBody s_law) (defScope s_law) .none kV_law dc_law pm_law an_law cd_law ct_law, fun s v => .of_eq rfl, fun base _ _ => ok_law ⟨f_law_deal, _, F_law_deal, PySem.W.mg_of X G a_law_deal, b_law_deal, f_law_pairs, _, F_law_pairs, PySem.W.mg_of X G a_law_pairs, b_law_pairs, f_law_subset, _, F_law_subset, PySem.W.mg_of X G a_law_subset, b_law_subset, f_law_sets, _, F_law_sets, PySem.W.mg_of X G a_law_sets, b_law_sets, f_holds_any, _, F_holds_any, PySem.W.mg_of X G a_holds_any, b_holds_any, f_looked, _, F_looked, PySem.W.mg_of X G a_looked, b_looked, f_rising, _, F_rising, PySem.W.mg_of X G a_rising, b_rising, f_joined, _, F_joined, PySem.W.mg_of X G a_joined, b_joined, f_crossed, _, F_crossed, PySem.W.mg_of X G a_crossed, b_crossed, f_law_refused, _, F_law_refused, PySem.W.mg_of X G a_law_refused, b_law_refused, f_law_row, _, F_law_row, PySem.W.mg_of X G a_law_row, b_law_row, f_law_counts, _, F_law_counts, PySem.W.mg_of X G a_law_counts, b_law_counts, f_law_whole, _, F_law_whole, PySem.W.mg_of X G a_law_whole, b_law_whole, f_law_is_sets, _, F_law_is_sets, PySem.W.mg_of X G a_law_is_sets, b_law_is_sets, f_law_less, _, F_law_less, PySem.W.mg_of X G a_law_less, b_law_less, f_law_due, _, F_law_due, PySem.W.mg_of X G a_law_due, b_law_due, fa, _, F_law, PySem.W.mg_of X G a_law, b_law, PySem.W.mg_none_of X G z_all, PySem.W.mg_none_of X G z_any, PySem.W.mg_none_of X G z_bool, PySem.W.mg_none_of X G z_divmod, PySem.W.mg_none_of X G z_int, PySem.W.mg_none_of X G z_isinstance, PySem.W.mg_none_of X G z_len, PySem.W.mg_none_of X G z_list, PySem.W.mg_none_of X G z_range, PySem.W.mg_none_of X G z_set, PySem.W.mg_none_of X G z_sorted, PySem.W.mg_none_of X G z_sum, PySem.W.mg_none_of X G z_tuple, _, PySem.W.mg_of X G n_MOST_SETS, _, PySem.W.mg_of X G n_MOST_STEPS, c_TooMany, PySem.W.mg_of X G nc_TooMany, c_MossError, PySem.W.mg_of X G nc_MossError, nc_TooMany, ex_TooMany, kc_TooMany, sb_TooMany, ty_TooMany, (look_cons ⟨_, nc_TooMany, PySem.W.mg_of X G nc_TooMany, PySem.W.exm_ref sb_MossError hd_MossError ty_MossError su_TooMany_MossError⟩ look_nil), ⟨(kit_refN hd_TooMany ty_TooMany sn_TooMany), (look_cons ⟨_, nc_TooMany, EX_TooMany, (kit_ref hd_TooMany ty_TooMany su_TooMany_TooMany (fun h => nomatch h))⟩ look_nil)⟩⟩⟩
end K54
open PySem PySem.W PyProof.Rows in
set_option maxRecDepth 100000 in
set_option maxHeartbeats 0 in
theorem PySem.Challenge.cw_edgemoss_k54_sets_crossed_holds : PySem.Challenge.rw_edgemoss_k54_sets_crossed.Holds := by
  w_on; o_law; k_head; (case hw => w_witness2)
  k_fill
  refine E3.walk_e3 (l := PySem.Challenge.rw_edgemoss_k54_sets_crossed) (k := 6) (FL := K54.D_law) rfl rfl ⟨rfl, by decide, by decide⟩ (fun w h Y => PySem.W.kIn_of Y) ?F K54.law_true
  case F =>
    intro w mg fa h KX G hmg
    refine' K54.all_mk KX G hmg ?a_law_deal ?l_law_deal ?c_law_deal ?k_law_deal ?a_law_pairs ?l_law_pairs ?c_law_pairs ?k_law_pairs ?a_law_subset ?l_law_subset ?c_law_subset ?k_law_subset ?a_law_sets ?l_law_sets ?c_law_sets ?k_law_sets ?a_holds_any ?l_holds_any ?c_holds_any ?k_holds_any ?a_looked ?l_looked ?c_looked ?k_looked ?a_rising ?l_rising ?c_rising ?k_rising ?a_joined ?l_joined ?c_joined ?k_joined ?a_crossed ?l_crossed ?c_crossed ?k_crossed ?a_law_refused ?l_law_refused ?c_law_refused ?k_law_refused ?a_law_row ?l_law_row ?c_law_row ?k_law_row ?a_law_counts ?l_law_counts ?c_law_counts ?k_law_counts ?a_law_whole ?l_law_whole ?c_law_whole ?k_law_whole ?a_law_is_sets ?l_law_is_sets ?c_law_is_sets ?k_law_is_sets ?a_law_less ?l_law_less ?c_law_less ?k_law_less ?a_law_due ?l_law_due ?c_law_due ?k_law_due ?a_law ?l_law ?c_law ?k_law ?nc_TooMany ?nc_MossError ?hd_MossError ?sb_MossError ?ty_MossError ?hd_TooMany ?sb_TooMany ?ty_TooMany ?ex_TooMany ?kc_TooMany ?EX_TooMany ?su_TooMany_MossError ?su_TooMany_TooMany ?sn_TooMany ?z_all ?z_any ?z_bool ?z_divmod ?z_int ?z_isinstance ?z_len ?z_list ?z_range ?z_set ?z_sorted ?z_sum ?z_tuple ?n_MOST_SETS ?n_MOST_STEPS
    (case a_law_deal => k_is)
    (case l_law_deal => k_is)
    (case c_law_deal => k_is)
    (case k_law_deal => k_is)
    (case a_law_pairs => k_is)
    (case l_law_pairs => k_is)
    (case c_law_pairs => k_is)
    (case k_law_pairs => k_is)
    (case a_law_subset => k_is)
    (case l_law_subset => k_is)
    (case c_law_subset => k_is)
    (case k_law_subset => k_is)
    (case a_law_sets => k_is)
    (case l_law_sets => k_is)
    (case c_law_sets => k_is)
    (case k_law_sets => k_is)
    (case a_holds_any => k_is)
    (case l_holds_any => k_is)
    (case c_holds_any => k_is)
    (case k_holds_any => k_is)
    (case a_looked => k_is)
    (case l_looked => k_is)
    (case c_looked => k_is)
    (case k_looked => k_is)
    (case a_rising => k_is)
    (case l_rising => k_is)
    (case c_rising => k_is)
    (case k_rising => k_is)
    (case a_joined => k_is)
    (case l_joined => k_is)
    (case c_joined => k_is)
    (case k_joined => k_is)
    (case a_crossed => k_is)
    (case l_crossed => k_is)
    (case c_crossed => k_is)
    (case k_crossed => k_is)
    (case a_law_refused => k_is)
    (case l_law_refused => k_is)
    (case c_law_refused => k_is)
    (case k_law_refused => k_is)
    (case a_law_row => k_is)
    (case l_law_row => k_is)
    (case c_law_row => k_is)
    (case k_law_row => k_is)
    (case a_law_counts => k_is)
    (case l_law_counts => k_is)
    (case c_law_counts => k_is)
    (case k_law_counts => k_is)
    (case a_law_whole => k_is)
    (case l_law_whole => k_is)
    (case c_law_whole => k_is)
    (case k_law_whole => k_is)
    (case a_law_is_sets => k_is)
    (case l_law_is_sets => k_is)
    (case c_law_is_sets => k_is)
    (case k_law_is_sets => k_is)
    (case a_law_less => k_is)
    (case l_law_less => k_is)
    (case c_law_less => k_is)
    (case k_law_less => k_is)
    (case a_law_due => k_is)
    (case l_law_due => k_is)
    (case c_law_due => k_is)
    (case k_law_due => k_is)
    (case a_law => k_is)
    (case l_law => k_is)
    (case c_law => k_is)
    (case k_law => k_is)
    (case nc_TooMany => k_is)
    (case nc_MossError => k_is)
    (case hd_MossError => k_is)
    (case sb_MossError => k_is)
    (case ty_MossError => k_is)
    (case hd_TooMany => k_is)
    (case sb_TooMany => k_is)
    (case ty_TooMany => k_is)
    (case ex_TooMany => k_exc)
    (case kc_TooMany => k_is)
    (case EX_TooMany => (constructor <;> k_is))
    (case su_TooMany_MossError => k_is)
    (case su_TooMany_TooMany => k_is)
    (case sn_TooMany => k_is)
    (case z_all => k_is)
    (case z_any => k_is)
    (case z_bool => k_is)
    (case z_divmod => k_is)
    (case z_int => k_is)
    (case z_isinstance => k_is)
    (case z_len => k_is)
    (case z_list => k_is)
    (case z_range => k_is)
    (case z_set => k_is)
    (case z_sorted => k_is)
    (case z_sum => k_is)
    (case z_tuple => k_is)
    (case n_MOST_SETS => k_is)
    (case n_MOST_STEPS => k_is)
