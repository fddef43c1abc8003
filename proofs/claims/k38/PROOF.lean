import PyProof.Rows.All
import Wide.All
import OpenK.AllK
import Wide.FinOn
import HandS.ForMost
import HandS.ForExc
import HandS.Deep
import HandS.Zip
import HandS.TupAny
import HandS.WideBits
import HandS.Wide
import HandS.Conv
import HandS.IsInst
import KE.SortData
import HandS.TupSets
import HandS.EndBits
import KE.DataMinMax
import KE.KDictSum
import HandS.TupLen
import HandS.DictTup
import PyProof.DictMoreH
import HandS.DictEq
import HandS.Iter
import HandS.ExcOwn
import HandS.TryOnly
import HandS.ExcIs
import HandS.DictComp
import KE.KDictDisplayH
import HandS.ExcInit
import HandS.ExcField
import HandS.ExcValue
import HandS.Codes
import OpenK.KMake
import PySem.Challenge.RW_edgemoss_k38_leaves_and_moves
set_option Elab.async false
set_option linter.all false
set_option maxRecDepth 100000
set_option maxHeartbeats 4000000
namespace E3
open PySem PySem.Spec PyProof.Rows L2

abbrev D := PyData
abbrev DS := List (Option D)

def LsQ (K : PySem.W.Frag) (H : Hp) (a : Addr) (xs : List V) : Prop :=
  Rd H a (.lst xs) ∨ ∃ (its : Array Value) (n : Nat), K.lookup a = some { cls := .type "list", data := .seq its n } ∧ its.size ≤ sizeLine ∧ Vals xs its.toList
theorem LsQ.sq {K : PySem.W.Frag} {H : Hp} {a : Addr} {xs : List V} (h : LsQ K H a xs) : SqL K H a xs := by
  rcases h with h | ⟨its, n, h1, h2, h3⟩
  · exact .inl h
  · exact .inr ⟨_, its, n, h1, rfl, rfl, rfl, h2, h3⟩
theorem LsQ.at {X : Cx} {pins : List (Addr × Obj)} {σ : L2.St} {H : Hp} {s : Shared} {a : Addr} {xs : List V} (h : LsQ X.K H a xs) (I : Inv X pins σ H s) :
    xs.length ≤ sizeLine ∧ ∃ (its : List Value) (n : Nat), Vals xs its ∧ s.heap.get? a = some { cls := .type "list", data := .seq its.toArray n } := by
  rcases h with h | ⟨its, n, h1, h2, h3⟩
  · obtain ⟨z, i1, n, r, e⟩ := h.ok I.hok
    exact ⟨z, i1, n, r, e⟩
  · refine ⟨?_, its.toList, n, h3, by simpa using I.kIn a _ h1⟩
    have := h3.length
    simp only [Array.length_toList] at this
    omega
def ErO (C a : Addr) (d : Option Addr) : Heap → Prop := fun h => ∃ oe vs, h.get? a = some oe ∧ Zc (.ref C) d oe ∧ oe.data = .fields vs
inductive ObT (K : PySem.W.Frag) (H : Hp) (a : Addr) (x : Str) : D → List (Str × V) → Prop
  | er {C : Addr} : PySem.W.nsIn K mainGlobals x = some (some (.ref C)) → H a = some (.ext (ErO C a none)) → ObT K H a x .none []
  | erf {C b : Addr} {f : Str} {v : V} : PySem.W.nsIn K mainGlobals x = some (some (.ref C)) → H a = some (.ext (ErO C a (some b))) → H b = some (.xd [(f, v)]) → ObT K H a x .none [(f, v)]
  | ins {C : Addr} {dx : Addr} {fs : List (Str × V)} : PySem.W.nsIn K mainGlobals x = some (some (.ref C)) → H a = some (.ins C dx fs) → ObT K H a x (.bool true) fs
mutual
inductive Rp (K : PySem.W.Frag) (H : Hp) : V → D → Prop
  | non : Rp K H .non .none
  | bl (b : Bool) : Rp K H (.bl b) (.bool b)
  | int (i : Int) : Rp K H (.int i) (.int i)
  | str (x : Str) : Rp K H (.str x) (.str x)
  | lst {a : Addr} {xs : List V} {ds : List D} : LsQ K H a xs → RpA K H xs ds → Rp K H (.ref a) (.list ds)
  | tup {a : Addr} {xs : List V} {ds : List D} : H a = some (.tup xs) → RpA K H xs ds → Rp K H (.ref a) (.tuple ds)
  | dT {a : Addr} {kvs : List (List Key × V)} {ds : List (D × D)} : Rd H a (.dT kvs) → RpK K H kvs ds → Rp K H (.ref a) (.dict ds)
  | ob {a : Addr} {x : Str} {k : D} {vs : List (Str × V)} {kvs : List (D × D)} : ObT K H a x k vs → RpF K H vs kvs → Rp K H (.ref a) (.dict ((k, .str x) :: kvs))
inductive RpA (K : PySem.W.Frag) (H : Hp) : List V → List D → Prop
  | nil : RpA K H [] []
  | cons {v : V} {vs : List V} {d : D} {ds : List D} : Rp K H v d → RpA K H vs ds → RpA K H (v :: vs) (d :: ds)
inductive RpK (K : PySem.W.Frag) (H : Hp) : List (List Key × V) → List (D × D) → Prop
  | nil : RpK K H [] []
  | cons {k : List Int} {v : V} {kvs : List (List Key × V)} {d : D} {ds : List (D × D)} : Rp K H v d → RpK K H kvs ds → RpK K H ((k.map Sum.inl, v) :: kvs) ((.tuple (k.map .int), d) :: ds)
inductive RpF (K : PySem.W.Frag) (H : Hp) : List (Str × V) → List (D × D) → Prop
  | nil : RpF K H [] []
  | cons {n : Str} {v : V} {vs : List (Str × V)} {d : D} {ds : List (D × D)} : Rp K H v d → RpF K H vs ds → RpF K H ((n, v) :: vs) ((.str n, d) :: ds)
end
def obK : List (D × D) → Bool
  | (.none, _) :: _ => true
  | (.bool _, _) :: _ => true
  | _ => false
theorem RpK.noOb {K : PySem.W.Frag} {H : Hp} {vs : List (List Key × V)} {ds : List (D × D)} (h : RpK K H vs ds) : obK ds = false := by cases h <;> rfl

theorem seqT_same {K : PySem.W.Frag} {H H' : Hp} {a : Addr} {xs : List V} (e : Same H H') (h : SqT K H a xs) : SqT K H' a xs := by
  rcases h with (h | ⟨o, h⟩) | h
  · exact .inl (.inl (e _ _ h))
  · exact .inl (.inr ⟨o, e _ _ h⟩)
  · exact .inr h
theorem ls_same {K : PySem.W.Frag} {H H' : Hp} {a : Addr} {xs : List V} (e : Same H H') (h : LsQ K H a xs) : LsQ K H' a xs := by
  rcases h with (h | ⟨o, h⟩) | h
  · exact .inl (.inl (e _ _ h))
  · exact .inl (.inr ⟨o, e _ _ h⟩)
  · exact .inr h
theorem rd_same {H H' : Hp} {a : Addr} {u : HO} (e : Same H H') (h : Rd H a u) : Rd H' a u := by
  rcases h with h | ⟨o, h⟩
  · exact .inl (e _ _ h)
  · exact .inr ⟨o, e _ _ h⟩
theorem ob_same {K : PySem.W.Frag} {H H' : Hp} {a : Addr} {x : Str} {k : D} {vs : List (Str × V)} (e : Same H H') (h : ObT K H a x k vs) : ObT K H' a x k vs := by
  cases h with
  | er h1 h2 => exact .er h1 (e _ _ h2)
  | erf h1 h2 h3 => exact .erf h1 (e _ _ h2) (e _ _ h3)
  | ins h1 h2 => exact .ins h1 (e _ _ h2)
section
variable {K : PySem.W.Frag} {H H' : Hp}
mutual
theorem Rp.mono (e : Same H H') : ∀ {v : V} {d : D}, Rp K H v d → Rp K H' v d
  | _, _, .non => .non
  | _, _, .bl b => .bl b
  | _, _, .int i => .int i
  | _, _, .str x => .str x
  | _, _, .lst h r => .lst (ls_same e h) (RpA.mono e r)
  | _, _, .tup h r => .tup (e _ _ h) (RpA.mono e r)
  | _, _, .dT h r => .dT (rd_same e h) (RpK.mono e r)
  | _, _, .ob h r => .ob (ob_same e h) (RpF.mono e r)
theorem RpA.mono (e : Same H H') : ∀ {vs : List V} {ds : List D}, RpA K H vs ds → RpA K H' vs ds
  | _, _, .nil => .nil
  | _, _, .cons h r => .cons (Rp.mono e h) (RpA.mono e r)
theorem RpK.mono (e : Same H H') : ∀ {vs : List (List Key × V)} {ds : List (D × D)}, RpK K H vs ds → RpK K H' vs ds
  | _, _, .nil => .nil
  | _, _, .cons h r => .cons (Rp.mono e h) (RpK.mono e r)
theorem RpF.mono (e : Same H H') : ∀ {vs : List (Str × V)} {ds : List (D × D)}, RpF K H vs ds → RpF K H' vs ds
  | _, _, .nil => .nil
  | _, _, .cons h r => .cons (Rp.mono e h) (RpF.mono e r)
end
theorem RpA.length : ∀ {vs : List V} {ds : List D}, RpA K H vs ds → vs.length = ds.length
  | _, _, .nil => rfl
  | _, _, .cons _ r => by rw [List.length_cons, List.length_cons, r.length]
theorem RpA.get : ∀ {vs : List V} {ds : List D} {i : Nat} {d : D}, RpA K H vs ds → ds[i]? = some d → ∃ v, vs[i]? = some v ∧ Rp K H v d
  | _, _, _, _, .nil, e => by simp at e
  | _, _, 0, _, .cons h _, e => by simp at e; subst e; exact ⟨_, rfl, h⟩
  | _, _, i + 1, d, .cons _ r, e => by
    obtain ⟨v, h1, h2⟩ := RpA.get (i := i) (d := d) r (by simpa using e)
    exact ⟨v, by simpa using h1, h2⟩
theorem RpA.getV : ∀ {vs : List V} {ds : List D} {i : Nat} {v : V}, RpA K H vs ds → vs[i]? = some v → ∃ d, ds[i]? = some d ∧ Rp K H v d
  | _, _, _, _, .nil, e => by simp at e
  | _, _, 0, _, .cons h _, e => by simp at e; subst e; exact ⟨_, rfl, h⟩
  | _, _, i + 1, v, .cons _ r, e => by
    obtain ⟨d, h1, h2⟩ := RpA.getV (i := i) (v := v) r (by simpa using e)
    exact ⟨d, by simpa using h1, h2⟩
theorem RpA.append : ∀ {vs ws : List V} {ds es : List D}, RpA K H vs ds → RpA K H ws es → RpA K H (vs ++ ws) (ds ++ es)
  | _, _, _, _, .nil, s => s
  | _, _, _, _, .cons h r, s => .cons h (r.append s)
theorem RpA.take : ∀ {vs : List V} {ds : List D} (n : Nat), RpA K H vs ds → RpA K H (vs.take n) (ds.take n)
  | _, _, 0, _ => .nil
  | _, _, _ + 1, .nil => .nil
  | _, _, n + 1, .cons h r => .cons h (r.take n)
theorem RpA.drop : ∀ {vs : List V} {ds : List D} (n : Nat), RpA K H vs ds → RpA K H (vs.drop n) (ds.drop n)
  | _, _, 0, r => r
  | _, _, _ + 1, .nil => .nil
  | _, _, n + 1, .cons _ r => r.drop n
theorem RpA.set {v : V} {d : D} (h : Rp K H v d) : ∀ {vs : List V} {ds : List D} (i : Nat), RpA K H vs ds → RpA K H (vs.set i v) (ds.set i d)
  | _, _, _, .nil => .nil
  | _, _, 0, .cons _ r => .cons h r
  | _, _, i + 1, .cons q r => .cons q (r.set h i)
theorem RpA.reverse : ∀ {vs : List V} {ds : List D}, RpA K H vs ds → RpA K H vs.reverse ds.reverse
  | _, _, .nil => .nil
  | _, _, .cons h r => by
    rw [List.reverse_cons, List.reverse_cons]
    exact r.reverse.append (.cons h .nil)
theorem RpA.dropLast {vs : List V} {ds : List D} (r : RpA K H vs ds) : RpA K H vs.dropLast ds.dropLast := by
  rw [List.dropLast_eq_take, List.dropLast_eq_take, r.length]
  exact r.take _
theorem RpA.eraseIdx : ∀ {vs : List V} {ds : List D} (i : Nat), RpA K H vs ds → RpA K H (vs.eraseIdx i) (ds.eraseIdx i)
  | _, _, _, .nil => .nil
  | _, _, 0, .cons _ r => r
  | _, _, i + 1, .cons q r => .cons q (r.eraseIdx i)
theorem RpA.ints : ∀ (ns : List Int), RpA K H (ns.map V.int) (ns.map .int)
  | [] => .nil
  | n :: r => .cons (.int n) (RpA.ints r)
theorem RpA.ints_inv : ∀ {vs : List V} {ns : List Int}, RpA K H vs (ns.map .int) → vs = ns.map V.int
  | [], [], _ => rfl
  | v :: vs, n :: r, h => by
    cases h with
    | cons h1 h2 =>
      cases h1
      rw [List.map_cons, RpA.ints_inv h2]
  | [], _ :: _, h => by cases h
  | _ :: _, [], h => by cases h
end

mutual
def flat : D → Bool
  | .list _ => false
  | .tuple xs => flatA xs
  | .dict _ => false
  | _ => true
def flatA : List D → Bool
  | [] => true
  | x :: r => flat x && flatA r
end
section
variable {K : PySem.W.Frag} {H H' : Hp}
mutual
theorem Rp.dp : ∀ {v : V} {d : D}, Rp K H v d → d.canLay0 = true → Dp K H v d
  | _, _, .non, _ => .non
  | _, _, .bl b, _ => .bl b
  | _, _, .int i, _ => .int i
  | _, _, .str x, _ => .str x
  | _, _, .lst h r, q => .lst h.sq (RpA.dp r (by simpa [PyData.canLay0] using q))
  | _, _, .tup h r, q => .tup (SqT.of h) (RpA.dp r (by simpa [PyData.canLay0] using q))
  | _, _, .dT _ _, q => by simp [PyData.canLay0] at q
  | _, _, .ob _ _, q => by simp [PyData.canLay0] at q
theorem RpA.dp : ∀ {vs : List V} {ds : List D}, RpA K H vs ds → PyData.canLayAll0 ds = true → DpAll K H vs ds
  | _, _, .nil, _ => .nil
  | _, _, .cons h r, q => .cons (h.dp (by simp [PyData.canLayAll0] at q; exact q.1)) (RpA.dp r (by simp [PyData.canLayAll0] at q; exact q.2))
end
def Tups (H H' : Hp) : Prop := ∀ a xs, H a = some (.tup xs) → H' a = some (.tup xs)
mutual
theorem Rp.flat (e : Tups H H') : ∀ {v : V} {d : D}, Rp K H v d → flat d = true → Rp K H' v d
  | _, _, .non, _ => .non
  | _, _, .bl b, _ => .bl b
  | _, _, .int i, _ => .int i
  | _, _, .str x, _ => .str x
  | _, _, .lst _ _, q => by cases q
  | _, _, .tup h r, q => .tup (e _ _ h) (RpA.flat e r q)
  | _, _, .dT _ _, q => by cases q
  | _, _, .ob _ _, q => by cases q
theorem RpA.flat (e : Tups H H') : ∀ {vs : List V} {ds : List D}, RpA K H vs ds → flatA ds = true → RpA K H' vs ds
  | _, _, .nil, _ => .nil
  | _, _, .cons h r, q => .cons (h.flat e (Bool.and_eq_true_iff.mp q).1) (RpA.flat e r (Bool.and_eq_true_iff.mp q).2)
end
end

structure Ext (R H R' H' : Hp) : Prop where
  rr : Same R R'
  sub : Same R' H'
  hh : Same H H'
  new : ∀ a o, R' a = some o → R a = some o ∨ H a = none ∨ ∃ xs, o = .tup xs
theorem Ext.refl {R H : Hp} (s : Same R H) : Ext R H R H := ⟨Same.refl _, s, Same.refl _, fun _ _ h => .inl h⟩
theorem Ext.trans {R H R1 H1 R2 H2 : Hp} (a : Ext R H R1 H1) (b : Ext R1 H1 R2 H2) : Ext R H R2 H2 :=
  ⟨a.rr.trans b.rr, b.sub, a.hh.trans b.hh, fun c o q => by
    rcases b.new c o q with z | z | z
    · exact a.new c o z
    · exact .inr (.inl (a.hh.free z))
    · exact .inr (.inr z)⟩
theorem same_new {H : Hp} {p : Addr} {o : HO} (h : H p = none) : Same H (upd H p o) := fun b x e => by
  rw [upd_ne (ne_of_none e h)]; exact e
theorem Ext.alloc {R H : Hp} {p : Addr} {o : HO} (s : Same R H) (h : H p = none) : Ext R H (upd R p o) (upd H p o) := by
  refine ⟨same_new (s.free h), fun b x e => ?_, same_new h, fun b x e => ?_⟩
  · by_cases hb : b = p
    · subst hb; rw [upd_same] at e ⊢; exact e
    · rw [upd_ne hb] at e ⊢; exact s _ _ e
  · by_cases hb : b = p
    · subst hb; exact .inr (.inl h)
    · rw [upd_ne hb] at e; exact .inl e
theorem Ext.allocH {R H : Hp} {p : Addr} {o : HO} (s : Same R H) (h : H p = none) : Ext R H R (upd H p o) :=
  ⟨Same.refl _, s.trans (same_new h), same_new h, fun _ _ q => .inl q⟩
theorem Ext.region {R H R' H' : Hp} (e : Ext R H R' H') : Same R' H' := e.sub

structure Exn where
  cls : Str
  fld : Option (Str × D)
inductive Res (α : Type) where
  | ok (a : α)
  | exc (e : Exn)
  | stuck
def Res.bind {α β : Type} : Res α → (α → Res β) → Res β
  | .ok a, f => f a
  | .exc e, _ => .exc e
  | .stuck, _ => .stuck
def Res.map {α β : Type} (f : α → β) : Res α → Res β
  | .ok a => .ok (f a)
  | .exc e => .exc e
  | .stuck => .stuck
@[simp] theorem Res.bind_ok {α β : Type} (a : α) (f : α → Res β) : (Res.ok a).bind f = f a := rfl
@[simp] theorem Res.bind_exc {α β : Type} (e : Exn) (f : α → Res β) : (Res.exc e).bind f = .exc e := rfl
@[simp] theorem Res.bind_stuck {α β : Type} (f : α → Res β) : (Res.stuck : Res α).bind f = .stuck := rfl
@[simp] theorem Res.map_ok {α β : Type} (a : α) (f : α → β) : (Res.ok a).map f = .ok (f a) := rfl

def ExR (K : PySem.W.Frag) (mg : Str → Option Value) (x : Exn) (c : Value) (dx : Option Addr) (H' : Hp) : Prop :=
  mg x.cls = some c ∧ match x.fld with
    | none => dx = none
    | some (f, d) => ∃ a v, dx = some a ∧ H' a = some (.xd [(f, v)]) ∧ Rp K H' v d

structure ExL (K : PySem.W.Frag) (mg : Str → Option Value) (H : Hp) (x : Exn) (c : Value) (dx : Option Addr) (H' : Hp) : Prop where
  er : ExR K mg x c dx H'
  late : ∀ b, dx = some b → H b = none
theorem ExL.back {K : PySem.W.Frag} {mg : Str → Option Value} {H H1 H' : Hp} {x : Exn} {c : Value} {dx : Option Addr} (h : ExL K mg H1 x c dx H') (e : Same H H1) : ExL K mg H x c dx H' := ⟨h.er, fun b z => e.free (h.late b z)⟩
section
variable {α β : Type}
def Post (K : PySem.W.Frag) (mg : Str → Option Value) (Ex : XK) (rel : Hp → β → α → Prop) (R H : Hp) (Q : β → Hp → Prop) : Res α → Prop
  | .ok d => ∀ v R' H', Ext R H R' H' → rel R' v d → Q v H'
  | .exc x => ∀ c dx H', Same H H' → ExL K mg H x c dx H' → Ex c dx H'
  | .stuck => False
theorem Post.step {K : PySem.W.Frag} {mg : Str → Option Value} {Ex : XK} {rel : Hp → β → α → Prop} {R H R1 H1 : Hp} {Q : β → Hp → Prop} {r : Res α} (e : Ext R H R1 H1) (h : Post K mg Ex rel R H Q r) : Post K mg Ex rel R1 H1 Q r := by
  cases r with
  | ok d => exact fun v R' H' x q => h v R' H' (e.trans x) q
  | exc x => exact fun c dx H' s q => h c dx H' (e.hh.trans s) (q.back e.hh)
  | stuck => exact h
theorem Post.now {K : PySem.W.Frag} {mg : Str → Option Value} {Ex : XK} {rel : Hp → β → α → Prop} {R H : Hp} {Q : β → Hp → Prop} {d : α} {v : β} (s : Same R H) (q : rel R v d) (h : Post K mg Ex rel R H Q (.ok d)) : Q v H := h v R H (Ext.refl s) q
end

structure RS (K : PySem.W.Frag) (R : Hp) (σ : DS) (τ : L2.St) : Prop where
  get : ∀ (i : Nat) (d : D), σ[i]? = some (some d) → ∃ v, τ[i]? = some (some v) ∧ Rp K R v d
  len : σ.length = τ.length
theorem RS.mono {K : PySem.W.Frag} {R R' : Hp} {σ : DS} {τ : L2.St} (e : Same R R') (h : RS K R σ τ) : RS K R' σ τ := ⟨fun i d q => by
  obtain ⟨v, a, b⟩ := h.get i d q
  exact ⟨v, a, b.mono e⟩, h.len⟩
abbrev rV (K : PySem.W.Frag) : Hp → V → D → Prop := fun R v d => Rp K R v d
abbrev rA (K : PySem.W.Frag) : Hp → List V → List D → Prop := fun R v d => RpA K R v d
abbrev rB : Hp → Bool → Bool → Prop := fun _ b c => b = c

abbrev xat (E : WX) (τ : L2.St) : XK := fun c d H => E c d τ H
structure DE (X : Cx) (E : WX) (e : Expr) (f : DS → Res D) : Prop where
  run : ∃ t : TE, PE X e t ∧ ∀ (σ : DS) (τ : L2.St) (R H : Hp) (Q : VK), RS X.K R σ τ → Same R H → Post X.K X.mg (xat E τ) (rV X.K) R H Q (f σ) → t τ H Q
structure DA (X : Cx) (E : WX) (es : List Expr) (f : DS → Res (List D)) : Prop where
  run : ∃ t : TA, PA X es t ∧ ∀ (σ : DS) (τ : L2.St) (R H : Hp) (Q : List V → Hp → Prop), RS X.K R σ τ → Same R H → Post X.K X.mg (xat E τ) (rA X.K) R H Q (f σ) → t τ H Q
structure DT (X : Cx) (E : WX) (e : Expr) (f : DS → Res Bool) : Prop where
  run : ∃ t : TT, PT X e t ∧ ∀ (σ : DS) (τ : L2.St) (R H : Hp) (Q : Bool → Hp → Prop), RS X.K R σ τ → Same R H → Post X.K X.mg (xat E τ) rB R H Q (f σ) → t τ H Q
structure DW (X : Cx) (E : WX) (e : Expr) (f : DS → Res Bool) : Prop where
  run : ∃ t : TT, PW X e t ∧ ∀ (σ : DS) (τ : L2.St) (R H : Hp) (Q : Bool → Hp → Prop), RS X.K R σ τ → Same R H → Post X.K X.mg (xat E τ) rB R H Q (f σ) → t τ H Q

def eVar (i : Nat) : DS → Res D := fun σ => match σ[i]? with
  | some (some d) => .ok d
  | _ => .stuck
def eC (d : D) : DS → Res D := fun _ => .ok d
section
variable {X : Cx} {E : WX} {Ex : XK}
theorem de_var (i : Nat) {x : Str} {pos : Pos} (hN : X.N[i]? = some x := by rfl) (hv : Vis X.env.scope x := by first | exact Or.inl rfl | exact Or.inr (Or.inl rfl) | exact Or.inr (Or.inr rfl)) (hd : (x == ("__debug__" : Str)) = false := by decide)
    (hcd : (x == ("__classdict__" : Str)) = false := by decide) : DE X E (.Name x pos) (eVar i) := by
  refine ⟨_, pe_var hN hv hd hcd, fun σ τ R H Q hs s h => ?_⟩
  unfold eVar at h
  cases q : σ[i]? with
  | none => rw [q] at h; exact h.elim
  | some o =>
    cases o with
    | none => rw [q] at h; exact h.elim
    | some d =>
      rw [q] at h
      obtain ⟨v, e1, e2⟩ := hs.get i d q
      exact ⟨v, e1, Post.now s e2 h⟩
theorem de_int {i j pos} : DE X E (.Constant (.int i) j pos) (eC (.int i)) := ⟨_, pe_int, fun _ _ _ _ _ _ s h => Post.now s (Rp.int i) h⟩
theorem de_bl {b j pos} : DE X E (.Constant (.bool b) j pos) (eC (.bool b)) := ⟨_, pe_bl, fun _ _ _ _ _ _ s h => Post.now s (Rp.bl b) h⟩
theorem de_non {j pos} : DE X E (.Constant .none j pos) (eC .none) := ⟨_, pe_non, fun _ _ _ _ _ _ s h => Post.now s Rp.non h⟩
theorem de_str {x j pos} : DE X E (.Constant (.str x) j pos) (eC (.str x)) := ⟨_, pe_str, fun _ _ _ _ _ _ s h => Post.now s (Rp.str x) h⟩
theorem de_glob {x : Str} {v : V} {u : Value} {d : D} {pos : Pos} (hg : Gl X x) (hm : X.mg x = some u) (r : RelV v u) (hd : ∀ R, Rp X.K R v d) (hdb : (x == ("__debug__" : Str)) = false := by decide) : DE X E (.Name x pos) (eC d) :=
  ⟨_, pe_glob hg hm r hdb, fun _ _ _ _ _ _ s h => Post.now s (hd _) h⟩

theorem post_bind {α β γ δ : Type} {rel : Hp → β → α → Prop} {rel' : Hp → δ → γ → Prop} {R H : Hp} {Q : δ → Hp → Prop} {r : Res α} {g : α → Res γ} {T : β → Hp → Prop} (s : Same R H) (h : Post X.K X.mg Ex rel' R H Q (r.bind g))
    (k : ∀ d v R' H', Ext R H R' H' → rel R' v d → Post X.K X.mg Ex rel' R' H' Q (g d) → T v H') : Post X.K X.mg Ex rel R H T r := by
  cases r with
  | ok d => exact fun v R' H' e q => k d v R' H' e q (h.step e)
  | exc x => exact h
  | stuck => exact h

def e2 (o : D → D → Res D) (f g : DS → Res D) : DS → Res D := fun σ => (f σ).bind fun x => (g σ).bind fun y => o x y
def e1 (o : D → Res D) (f : DS → Res D) : DS → Res D := fun σ => (f σ).bind o
def OpD (X : Cx) (f : Value → Value → Sem Value) (o : D → D → Res D) : Prop :=
  ∃ r : R2, OpR X f r ∧ ∀ (v w : V) (x y : D) (R H : Hp) (Q : VK) (Ex : XK), Rp X.K R v x → Rp X.K R w y → Same R H → Post X.K X.mg Ex (rV X.K) R H Q (o x y) → r v w H Q
def UnD (X : Cx) (f : Value → Sem Value) (o : D → Res D) : Prop :=
  ∃ r : V → Hp → VK → Prop, UnR X f r ∧ ∀ (v : V) (x : D) (R H : Hp) (Q : VK) (Ex : XK), Rp X.K R v x → Same R H → Post X.K X.mg Ex (rV X.K) R H Q (o x) → r v H Q
variable {a b c : Expr} {f g k : DS → Res D} {pos : Pos}
theorem two_run {ta tb : TE} {σ : DS} {τ : L2.St} {R H : Hp} {Q : VK} {o : D → D → Res D} {r : V → V → Hp → VK → Prop} (ha : ∀ (σ : DS) (τ : L2.St) (R H : Hp) (Q : VK), RS X.K R σ τ → Same R H → Post X.K X.mg (xat E τ) (rV X.K) R H Q (f σ) → ta τ H Q)
    (hb : ∀ (σ : DS) (τ : L2.St) (R H : Hp) (Q : VK), RS X.K R σ τ → Same R H → Post X.K X.mg (xat E τ) (rV X.K) R H Q (g σ) → tb τ H Q)
    (ho : ∀ (v w : V) (x y : D) (R H : Hp) (Q : VK) (Ex : XK), Rp X.K R v x → Rp X.K R w y → Same R H → Post X.K X.mg Ex (rV X.K) R H Q (o x y) → r v w H Q)
    (hs : RS X.K R σ τ) (s : Same R H) (h : Post X.K X.mg (xat E τ) (rV X.K) R H Q (e2 o f g σ)) : ta τ H fun x H1 => tb τ H1 fun y H2 => r x y H2 Q := by
  refine ha σ τ R H _ hs s (post_bind s h fun x v R1 H1 e1 q1 h1 => ?_)
  refine hb σ τ R1 H1 _ (hs.mono e1.rr) e1.sub (post_bind e1.sub h1 fun y w R2 H2 e2 q2 h2 => ?_)
  exact ho v w x y R2 H2 Q _ (q1.mono e2.rr) q2 e2.sub h2
theorem de_op {op : Operator} {o : D → D → Res D} (ho : OpD X (binaryOp op) o) (ha : DE X E a f) (hb : DE X E b g) : DE X E (.BinOp a op b pos) (e2 o f g) := by
  obtain ⟨r, hr, q⟩ := ho
  obtain ⟨ta, pa, qa⟩ := ha
  obtain ⟨tb, pb, qb⟩ := hb
  exact ⟨_, pe_op hr pa pb, fun σ τ R H Q hs s h => two_run (r := r) qa qb q hs s h⟩
theorem de_un {op : UnaryOp} {o : D → Res D} (ho : UnD X (unaryOp op) o) (ha : DE X E a f) : DE X E (.UnaryOp op a pos) (e1 o f) := by
  obtain ⟨r, hr, q⟩ := ho
  obtain ⟨ta, pa, qa⟩ := ha
  exact ⟨_, pe_un hr pa, fun σ τ R H Q hs s h => qa σ τ R H _ hs s (post_bind s h fun x v R1 H1 e1 q1 h1 => q v x R1 H1 Q _ q1 e1.sub h1)⟩
theorem de_cmp {op : CmpOp} {o : D → D → Res D} (ho : OpD X (compareOp op) o) (ha : DE X E a f) (hb : DE X E b g) (hm : behindInMarks op b = false := by first | exact nobehind _ (by decide) (by decide) | rfl) : DE X E (.Compare a [op] [b] pos) (e2 o f g) := by
  obtain ⟨r, hr, q⟩ := ho
  obtain ⟨ta, pa, qa⟩ := ha
  obtain ⟨tb, pb, qb⟩ := hb
  exact ⟨_, pe_cmpR hr pa pb hm, fun σ τ R H Q hs s h => two_run (r := r) qa qb q hs s h⟩
def asB : D → Res Bool
  | .bool b => .ok b
  | _ => .stuck
def tB (f : DS → Res D) : DS → Res Bool := fun σ => (f σ).bind asB
theorem asB_run {v : V} {d : D} {R H : Hp} {Q : Bool → Hp → Prop} (q : Rp X.K R v d) (s : Same R H) (h : Post X.K X.mg Ex rB R H Q (asB d)) : ∃ c, v = .bl c ∧ Q c H := by
  cases q with
  | bl b => exact ⟨b, rfl, Post.now s (rel := rB) rfl h⟩
  | _ => exact h.elim
theorem dt_cmp {op : CmpOp} {o : D → D → Res D} (ho : OpD X (compareOp op) o) (ha : DE X E a f) (hb : DE X E b g) (hm : behindInMarks op b = false := by first | exact nobehind _ (by decide) (by decide) | rfl) : DT X E (.Compare a [op] [b] pos) (tB (e2 o f g)) := by
  obtain ⟨r, hr, q⟩ := ho
  obtain ⟨ta, pa, qa⟩ := ha
  obtain ⟨tb, pb, qb⟩ := hb
  refine ⟨_, pt_cmpR hr pa pb hm, fun σ τ R H Q hs s h => ?_⟩
  exact two_run (r := r) qa qb q hs s (post_bind s h fun x v R1 H1 e1 q1 h1 => asB_run q1 e1.sub h1)
theorem dt_val (ha : DE X E a f) (he : ∀ whole, isTrue a X.env whole = (do let v ← whole; standAt a.pos; holding [v] (truthy v)) := by intro _; rfl) : DT X E a (tB f) := by
  obtain ⟨ta, pa, qa⟩ := ha
  exact ⟨_, pt_val pa he, fun σ τ R H Q hs s h => qa σ τ R H _ hs s (post_bind s h fun x v R1 H1 e1 q1 h1 => asB_run q1 e1.sub h1)⟩

variable {p q r : DS → Res Bool} {rest : List Expr} {e : Expr}
def tAnd (p q : DS → Res Bool) : DS → Res Bool := fun σ => (p σ).bind fun b => if b then q σ else .ok false
def tOr (p q : DS → Res Bool) : DS → Res Bool := fun σ => (p σ).bind fun b => if b then .ok true else q σ
def tNot (p : DS → Res Bool) : DS → Res Bool := fun σ => (p σ).bind fun b => .ok (!b)
theorem DW.pt (h : DW X E e p) : DT X E e p := by
  obtain ⟨t, a, b⟩ := h
  exact ⟨t, a.pt, b⟩
theorem dw_and1 (ha : DT X E a p) : DW X E (.BoolOp .And [a] pos) p := by
  obtain ⟨t, h1, h2⟩ := ha
  exact ⟨t, pw_and1 h1, h2⟩
theorem dw_or1 (ha : DT X E a p) : DW X E (.BoolOp .Or [a] pos) p := by
  obtain ⟨t, h1, h2⟩ := ha
  exact ⟨t, pw_or1 h1, h2⟩
theorem dw_and (ha : DT X E a p) (hb : DW X E (.BoolOp .And (b :: rest) pos) q) : DW X E (.BoolOp .And (a :: b :: rest) pos) (tAnd p q) := by
  obtain ⟨t, h1, h2⟩ := ha
  obtain ⟨u, h3, h4⟩ := hb
  refine ⟨_, pw_and h1 h3, fun σ τ R H Q hs s h => h2 σ τ R H _ hs s (post_bind (rel := rB) s h fun x v R1 H1 e1 q1 k => ?_)⟩
  subst q1
  cases v with
  | true => exact h4 σ τ R1 H1 Q (hs.mono e1.rr) e1.sub k
  | false => exact Post.now e1.sub (rel := rB) rfl k
theorem dw_or (ha : DT X E a p) (hb : DW X E (.BoolOp .Or (b :: rest) pos) q) : DW X E (.BoolOp .Or (a :: b :: rest) pos) (tOr p q) := by
  obtain ⟨t, h1, h2⟩ := ha
  obtain ⟨u, h3, h4⟩ := hb
  refine ⟨_, pw_or h1 h3, fun σ τ R H Q hs s h => h2 σ τ R H _ hs s (post_bind (rel := rB) s h fun x v R1 H1 e1 q1 k => ?_)⟩
  subst q1
  cases v with
  | false => exact h4 σ τ R1 H1 Q (hs.mono e1.rr) e1.sub k
  | true => exact Post.now e1.sub (rel := rB) rfl k
theorem dt_not (ha : DT X E a p) : DT X E (.UnaryOp .Not a pos) (tNot p) := by
  obtain ⟨t, h1, h2⟩ := ha
  refine ⟨_, pt_not h1, fun σ τ R H Q hs s h => h2 σ τ R H _ hs s (post_bind (rel := rB) s h fun x v R1 H1 e1 q1 k => ?_)⟩
  subst q1
  exact Post.now e1.sub (rel := rB) rfl k
def eAnd (f g : DS → Res D) : DS → Res D := fun σ => (tB f σ).bind fun b => if b then g σ else .ok (.bool false)
def eOr (f g : DS → Res D) : DS → Res D := fun σ => (tB f σ).bind fun b => if b then .ok (.bool true) else g σ
def notD : D → Res D
  | .bool b => .ok (.bool (!b))
  | _ => .stuck
theorem de_one {op} (h : DE X E a f) : DE X E (.BoolOp op [a] pos) f := by
  obtain ⟨t, h1, h2⟩ := h
  exact ⟨t, pe_one h1, h2⟩
theorem bindB {r : Res D} {k : Bool → Res D} : (r.bind asB).bind k = r.bind fun d => (asB d).bind k := by cases r <;> rfl
theorem de_and (ha : DE X E a f) (hb : DE X E (.BoolOp .And (b :: rest) pos) g) : DE X E (.BoolOp .And (a :: b :: rest) pos) (eAnd f g) := by
  obtain ⟨t, h1, h2⟩ := ha
  obtain ⟨u, h3, h4⟩ := hb
  refine ⟨_, pe_and h1 h3, fun σ τ R H Q hs s h => h2 σ τ R H _ hs s ?_⟩
  have h' : Post X.K X.mg (xat E τ) (rV X.K) R H Q ((f σ).bind fun d => (asB d).bind fun b => if b then g σ else .ok (.bool false)) := by rw [← bindB]; exact h
  refine post_bind s h' fun x v R1 H1 e1 q1 k => ?_
  cases q1 with
  | bl c =>
    refine ⟨c, rfl, ?_⟩
    cases c with
    | true => exact h4 σ τ R1 H1 Q (hs.mono e1.rr) e1.sub k
    | false => exact Post.now e1.sub (Rp.bl false) k
  | _ => exact k.elim
theorem de_or (ha : DE X E a f) (hb : DE X E (.BoolOp .Or (b :: rest) pos) g) : DE X E (.BoolOp .Or (a :: b :: rest) pos) (eOr f g) := by
  obtain ⟨t, h1, h2⟩ := ha
  obtain ⟨u, h3, h4⟩ := hb
  refine ⟨_, pe_or h1 h3, fun σ τ R H Q hs s h => h2 σ τ R H _ hs s ?_⟩
  have h' : Post X.K X.mg (xat E τ) (rV X.K) R H Q ((f σ).bind fun d => (asB d).bind fun b => if b then .ok (.bool true) else g σ) := by rw [← bindB]; exact h
  refine post_bind s h' fun x v R1 H1 e1 q1 k => ?_
  cases q1 with
  | bl c =>
    refine ⟨c, rfl, ?_⟩
    cases c with
    | false => exact h4 σ τ R1 H1 Q (hs.mono e1.rr) e1.sub k
    | true => exact Post.now e1.sub (Rp.bl true) k
  | _ => exact k.elim
theorem de_not (ha : DE X E a f) : DE X E (.UnaryOp .Not a pos) (e1 notD f) := by
  obtain ⟨t, h1, h2⟩ := ha
  refine ⟨_, pe_not h1, fun σ τ R H Q hs s h => h2 σ τ R H _ hs s (post_bind s h fun x v R1 H1 e1 q1 k => ?_)⟩
  cases q1 with
  | bl c => exact ⟨c, rfl, Post.now e1.sub (Rp.bl _) k⟩
  | _ => exact k.elim
def eIf (p : DS → Res Bool) (f g : DS → Res D) : DS → Res D := fun σ => (p σ).bind fun b => if b then f σ else g σ
theorem de_ifExp (hc : DT X E c p) (ha : DE X E a f) (hb : DE X E b g) : DE X E (.IfExp c a b pos) (eIf p f g) := by
  obtain ⟨t, h1, h2⟩ := hc
  obtain ⟨ta, a1, a2⟩ := ha
  obtain ⟨tb, b1, b2⟩ := hb
  refine ⟨_, pe_ifExp h1 a1 b1, fun σ τ R H Q hs s h => h2 σ τ R H _ hs s (post_bind (rel := rB) s h fun x v R1 H1 e1 q1 k => ?_)⟩
  subst q1
  cases v with
  | true => exact a2 σ τ R1 H1 Q (hs.mono e1.rr) e1.sub k
  | false => exact b2 σ τ R1 H1 Q (hs.mono e1.rr) e1.sub k

def aNil : DS → Res (List D) := fun _ => .ok []
def aCons (f : DS → Res D) (g : DS → Res (List D)) : DS → Res (List D) := fun σ => (f σ).bind fun x => (g σ).bind fun xs => .ok (x :: xs)
variable {es : List Expr} {ga : DS → Res (List D)}
theorem da_nil : DA X E [] aNil := ⟨_, pa_nil, fun _ _ _ _ _ _ s h => Post.now s RpA.nil h⟩
theorem da_cons (ha : DE X E e f) (hr : DA X E es ga) (hs : starEach (e :: es) X.env = (false, eval e X.env) :: starEach es X.env := by rfl) : DA X E (e :: es) (aCons f ga) := by
  obtain ⟨t, h1, h2⟩ := ha
  obtain ⟨u, h3, h4⟩ := hr
  refine ⟨_, pa_cons h1 h3 hs, fun σ τ R H Q hs s h => h2 σ τ R H _ hs s (post_bind s h fun x v R1 H1 e1 q1 k => ?_)⟩
  refine h4 σ τ R1 H1 _ (hs.mono e1.rr) e1.sub (post_bind e1.sub k fun xs vs R2 H2 e2 q2 k2 => ?_)
  exact Post.now e2.sub (RpA.cons (q1.mono e2.rr) q2) k2
def tupD (xs : List D) : Res D := if xs.length ≤ sizeLine then .ok (.tuple xs) else .stuck
def lstD (xs : List D) : Res D := if xs.length ≤ sizeLine then .ok (.list xs) else .stuck
def eTup (g : DS → Res (List D)) : DS → Res D := fun σ => (g σ).bind tupD
def eLst (g : DS → Res (List D)) : DS → Res D := fun σ => (g σ).bind lstD
theorem new_tup {xs : List V} {ds : List D} {R H : Hp} {Q : VK} {p : Addr} (q : RpA X.K R xs ds) (s : Same R H) (hp : H p = none) (h : Post X.K X.mg Ex (rV X.K) R H Q (.ok (.tuple ds))) : Q (.ref p) (upd H p (.tup xs)) :=
  h _ _ _ (Ext.alloc s hp) (Rp.tup upd_same (q.mono (same_new (s.free hp))))
theorem new_lst {xs : List V} {ds : List D} {R H : Hp} {Q : VK} {p : Addr} (q : RpA X.K R xs ds) (s : Same R H) (hp : H p = none) (h : Post X.K X.mg Ex (rV X.K) R H Q (.ok (.list ds))) : Q (.ref p) (upd H p (.lst xs)) :=
  h _ _ _ (Ext.alloc s hp) (Rp.lst (.inl (.inl upd_same)) (q.mono (same_new (s.free hp))))
theorem de_tup {x1} (h : DA X E es ga) : DE X E (.Tuple es x1 pos) (eTup ga) := by
  obtain ⟨t, h1, h2⟩ := h
  refine ⟨_, pe_tup h1, fun σ τ R H Q hs s h => h2 σ τ R H _ hs s (post_bind s h fun xs vs R1 H1 e1 q1 k => ?_)⟩
  unfold tupD at k
  by_cases hl : xs.length ≤ sizeLine
  · rw [if_pos hl] at k
    exact ⟨by rw [q1.length]; exact hl, fun p hp => new_tup q1 e1.sub hp k⟩
  · rw [if_neg hl] at k; exact k.elim
theorem de_lst (h : DA X E es ga) : DE X E (.List es pos) (eLst ga) := by
  obtain ⟨t, h1, h2⟩ := h
  refine ⟨_, pe_lst h1, fun σ τ R H Q hs s h => h2 σ τ R H _ hs s (post_bind s h fun xs vs R1 H1 e1 q1 k => ?_)⟩
  unfold lstD at k
  by_cases hl : xs.length ≤ sizeLine
  · rw [if_pos hl] at k
    exact ⟨by rw [q1.length]; exact hl, fun p hp => new_lst q1 e1.sub hp k⟩
  · rw [if_neg hl] at k; exact k.elim
end
end E3

namespace E3
open PySem PySem.Spec PyProof.Rows L2

inductive Slot where
  | sh (d : D)
  | ow (d : D)
abbrev SS := List (Option Slot)
def Slot.dat : Slot → D
  | .sh d => d
  | .ow d => d
def Slot.shd : Slot → Option D
  | .sh d => some d
  | .ow _ => none
def view (σ : SS) : DS := σ.map fun o => o.map Slot.dat
def mask (σ : SS) : DS := σ.map fun o => o.bind Slot.shd

def Own (K : PySem.W.Frag) (R H : Hp) (a : Addr) : D → Prop
  | .list ds => ∃ vs, H a = some (.lst vs) ∧ RpA K R vs ds
  | .dict kvs => ∃ ks, H a = some (.dT ks) ∧ RpK K R ks kvs
  | _ => False
theorem Own.mono {K : PySem.W.Frag} {R H R' H' : Hp} {a : Addr} {d : D} (h : Own K R H a d) (e1 : Same R R') (e2 : Same H H') : Own K R' H' a d := by
  cases d with
  | list ds =>
    obtain ⟨vs, q, r⟩ := h
    exact ⟨vs, e2 _ _ q, r.mono e1⟩
  | dict kvs =>
    obtain ⟨vs, q, r⟩ := h
    exact ⟨vs, e2 _ _ q, r.mono e1⟩
  | _ => exact h.elim
theorem Own.some {K : PySem.W.Frag} {R H : Hp} {a : Addr} {d : D} (h : Own K R H a d) : ∃ o, H a = some o ∧ (∀ xs, o ≠ .tup xs) ∧ (∀ b u, o ≠ .frz b u) := by
  cases d with
  | list ds =>
    obtain ⟨vs, q, r⟩ := h
    exact ⟨_, q, fun _ z => (by cases z), fun _ _ z => (by cases z)⟩
  | dict kvs =>
    obtain ⟨vs, q, r⟩ := h
    exact ⟨_, q, fun _ z => (by cases z), fun _ _ z => (by cases z)⟩
  | _ => exact h.elim

structure RO (K : PySem.W.Frag) (R0 H0 R H : Hp) (σ : SS) (τ : L2.St) : Prop where
  ext : Ext R0 H0 R H
  sh : ∀ (i : Nat) (d : D), σ[i]? = some (some (.sh d)) → ∃ v, τ[i]? = some (some v) ∧ Rp K R v d
  ow : ∀ (i : Nat) (d : D), σ[i]? = some (some (.ow d)) → ∃ a, τ[i]? = some (some (.ref a)) ∧ R a = none ∧ H0 a = none ∧ Own K R H a d
  ne : ∀ (i j : Nat) (d e : D) (a : Addr), σ[i]? = some (some (.ow d)) → σ[j]? = some (some (.ow e)) → τ[i]? = some (some (.ref a)) → τ[j]? = some (some (.ref a)) → i = j
  len : σ.length = τ.length

theorem get_map {α β : Type} {l : List (Option α)} {f : Option α → Option β} (hf : f none = none) {i : Nat} {b : β} (h : (l.map f)[i]? = some (some b)) : ∃ a, l[i]? = some (some a) ∧ f (some a) = some b := by
  rw [List.getElem?_map] at h
  cases q : l[i]? with
  | none => rw [q] at h; cases h
  | some o =>
    rw [q] at h
    cases o with
    | none => rw [Option.map_some, hf] at h; cases h
    | some a => exact ⟨a, rfl, Option.some.inj h⟩

section
variable {K : PySem.W.Frag} {R0 H0 R H R' H' : Hp} {σ : SS} {τ : L2.St}
theorem RO.mask (I : RO K R0 H0 R H σ τ) : RS K R (mask σ) τ := ⟨fun i d h => by
  obtain ⟨a, h1, h2⟩ := get_map (f := fun o : Option Slot => o.bind Slot.shd) rfl h
  cases a with
  | sh e =>
    have : e = d := Option.some.inj h2
    subst this
    exact I.sh i e h1
  | ow e => exact (by cases h2), by show (σ.map _).length = _; rw [List.length_map]; exact I.len⟩
def owned (σ : SS) (τ : L2.St) (a : Addr) : Prop := ∃ (i : Nat) (d : D), σ[i]? = some (some (.ow d)) ∧ τ[i]? = some (some (.ref a))
open Classical in
noncomputable def full (σ : SS) (τ : L2.St) (R H : Hp) : Hp := fun a => if owned σ τ a then H a else R a
open Classical in
noncomputable def hide (σ : SS) (τ : L2.St) (R : Hp) : Hp := fun a => if owned σ τ a then none else R a
theorem full_o {a : Addr} (h : owned σ τ a) : full σ τ R H a = H a := by unfold full; rw [if_pos h]
theorem full_n {a : Addr} (h : ¬ owned σ τ a) : full σ τ R H a = R a := by unfold full; rw [if_neg h]
theorem hide_o {a : Addr} (h : owned σ τ a) : hide σ τ R a = none := by unfold hide; rw [if_pos h]
theorem hide_n {a : Addr} (h : ¬ owned σ τ a) : hide σ τ R a = R a := by unfold hide; rw [if_neg h]
theorem RO.ownd (I : RO K R0 H0 R H σ τ) {a : Addr} (h : owned σ τ a) : R a = none ∧ H0 a = none ∧ ∃ d, Own K R H a d := by
  obtain ⟨i, d, h1, h2⟩ := h
  obtain ⟨b, h3, h4, h5, h6⟩ := I.ow i d h1
  rw [h2] at h3
  cases h3
  exact ⟨h4, h5, d, h6⟩
theorem RO.rfull (I : RO K R0 H0 R H σ τ) : Same R (full σ τ R H) := fun a o e => by
  have n : ¬ owned σ τ a := fun z => by rw [(I.ownd z).1] at e; cases e
  rw [full_n n]; exact e
theorem RO.fullH (I : RO K R0 H0 R H σ τ) : Same (full σ τ R H) H := fun a o e => by
  by_cases n : owned σ τ a
  · rw [full_o n] at e; exact e
  · rw [full_n n] at e; exact I.ext.sub _ _ e
theorem RO.extF (I : RO K R0 H0 R H σ τ) : Ext R0 H0 (full σ τ R H) H := ⟨I.ext.rr.trans I.rfull, I.fullH, I.ext.hh, fun a o e => by
  by_cases n : owned σ τ a
  · exact .inr (.inl (I.ownd n).2.1)
  · rw [full_n n] at e; exact I.ext.new a o e⟩
theorem RO.viewed (I : RO K R0 H0 R H σ τ) : RS K (full σ τ R H) (view σ) τ := ⟨fun i d h => by
  obtain ⟨a, h1, h2⟩ := get_map (f := fun o : Option Slot => o.map Slot.dat) rfl h
  cases a with
  | sh e =>
    have : e = d := Option.some.inj h2
    subst this
    obtain ⟨v, q1, q2⟩ := I.sh i e h1
    exact ⟨v, q1, q2.mono I.rfull⟩
  | ow e =>
    have : e = d := Option.some.inj h2
    subst this
    obtain ⟨b, q1, q2, q3, q4⟩ := I.ow i e h1
    have ob : owned σ τ b := ⟨i, e, h1, q1⟩
    refine ⟨_, q1, ?_⟩
    cases e with
    | list ds =>
      obtain ⟨vs, z, r⟩ := q4
      exact .lst (.inl (.inl (by rw [full_o ob]; exact z))) (r.mono I.rfull)
    | dict kvs =>
      obtain ⟨vs, z, r⟩ := q4
      exact .dT (.inl (by rw [full_o ob]; exact z)) (r.mono I.rfull)
    | _ => exact q4.elim, by show (σ.map _).length = _; rw [List.length_map]; exact I.len⟩
theorem RO.step (I : RO K R0 H0 R H σ τ) (e : Ext R H R' H') : RO K R0 H0 R' H' σ τ where
  ext := I.ext.trans e
  sh := fun i d h => by
    obtain ⟨v, a, b⟩ := I.sh i d h
    exact ⟨v, a, b.mono e.rr⟩
  ow := fun i d h => by
    obtain ⟨a, h1, h2, h3, h4⟩ := I.ow i d h
    refine ⟨a, h1, ?_, h3, h4.mono e.rr e.hh⟩
    cases q : R' a with
    | none => rfl
    | some o =>
      rcases e.new a o q with z | z | ⟨xs, z⟩
      · rw [h2] at z; cases z
      · obtain ⟨o', z', _⟩ := h4.some
        rw [z] at z'; cases z'
      · obtain ⟨o', z', nt, _⟩ := h4.some
        have w1 := e.hh _ _ z'
        rw [e.sub _ _ q] at w1
        cases w1
        exact absurd z (nt xs)
  ne := I.ne
  len := I.len
theorem RO.stepF (I : RO K R0 H0 R H σ τ) (e : Ext (full σ τ R H) H R' H') : RO K R0 H0 (hide σ τ R') H' σ τ ∧ Tups R' (hide σ τ R') := by
  have x : Ext R H (hide σ τ R') H' := by
    refine ⟨fun a o q => ?_, fun a o q => ?_, e.hh, fun a o q => ?_⟩
    · have n : ¬ owned σ τ a := fun z => by rw [(I.ownd z).1] at q; cases q
      rw [hide_n n]
      exact e.rr _ _ (by rw [full_n n]; exact q)
    · by_cases n : owned σ τ a
      · rw [hide_o n] at q; cases q
      · rw [hide_n n] at q; exact e.sub _ _ q
    · by_cases n : owned σ τ a
      · rw [hide_o n] at q; cases q
      · rw [hide_n n] at q
        have := e.new a o q
        rw [full_n n] at this
        exact this
  refine ⟨I.step x, fun a xs q => ?_⟩
  have key : ∀ o, R' a = some o → ((∀ ys, o ≠ .tup ys) ∧ (∀ b u, o ≠ .frz b u)) ∨ hide σ τ R' a = some o := fun o z => by
    by_cases n : owned σ τ a
    · obtain ⟨d, q4⟩ := (I.ownd n).2.2
      obtain ⟨o', z1, z2, z3⟩ := q4.some
      have z4 : R' a = some o' := e.rr _ _ (by rw [full_o n]; exact z1)
      rw [z] at z4; cases z4
      exact .inl ⟨z2, z3⟩
    · exact .inr (by rw [hide_n n]; exact z)
  rcases key _ q with z | z
  · exact absurd rfl (z.1 xs)
  · exact z
theorem RO.same (I : RO K R0 H0 R H σ τ) (e : Same H H') : RO K R0 H0 R H' σ τ := I.step ⟨Same.refl _, I.ext.sub.trans e, e, fun _ _ q => .inl q⟩
theorem RO.put (I : RO K R0 H0 R H σ τ) {i : Nat} {v : V} {d : D} (q : Rp K R v d) : RO K R0 H0 R H (σ.set i (some (.sh d))) (τ.set i (some v)) where
  ext := I.ext
  sh := fun j e h => by
    by_cases hj : i = j
    · subst hj
      by_cases hl : i < σ.length
      · rw [List.getElem?_set_self hl] at h
        cases h
        exact ⟨v, List.getElem?_set_self (by rw [← I.len]; exact hl), q⟩
      · rw [List.set_eq_of_length_le (by omega)] at h
        rw [List.getElem?_eq_none (by omega)] at h; cases h
    · rw [List.getElem?_set_ne hj] at h ⊢
      exact I.sh j e h
  ow := fun j e h => by
    by_cases hj : i = j
    · subst hj
      by_cases hl : i < σ.length
      · rw [List.getElem?_set_self hl] at h; cases h
      · rw [List.set_eq_of_length_le (by omega)] at h
        rw [List.getElem?_eq_none (by omega)] at h; cases h
    · rw [List.getElem?_set_ne hj] at h ⊢
      exact I.ow j e h
  ne := fun j k d' e a h1 h2 h3 h4 => by
    have no : ∀ m (x : D), (σ.set i (some (.sh d)))[m]? = some (some (.ow x)) → i ≠ m := fun m x h hm => by
      subst hm
      by_cases hl : i < σ.length
      · rw [List.getElem?_set_self hl] at h; cases h
      · rw [List.set_eq_of_length_le (by omega)] at h
        rw [List.getElem?_eq_none (by omega)] at h; cases h
    have n1 := no _ _ h1
    have n2 := no _ _ h2
    rw [List.getElem?_set_ne n1] at h1 h3
    rw [List.getElem?_set_ne n2] at h2 h4
    exact I.ne j k d' e a h1 h2 h3 h4
  len := by rw [List.length_set, List.length_set]; exact I.len
theorem RO.putO (I : RO K R0 H0 R H σ τ) {i : Nat} {a : Addr} {d : D} (hR : R a = none) (h0 : H0 a = none) (ho : Own K R H a d) (hn : ¬ owned σ τ a) : RO K R0 H0 R H (σ.set i (some (.ow d))) (τ.set i (some (.ref a))) where
  ext := I.ext
  sh := fun j e h => by
    by_cases hj : i = j
    · subst hj
      by_cases hl : i < σ.length
      · rw [List.getElem?_set_self hl] at h; cases h
      · rw [List.set_eq_of_length_le (by omega)] at h
        rw [List.getElem?_eq_none (by omega)] at h; cases h
    · rw [List.getElem?_set_ne hj] at h ⊢
      exact I.sh j e h
  ow := fun j e h => by
    by_cases hj : i = j
    · subst hj
      by_cases hl : i < σ.length
      · rw [List.getElem?_set_self hl] at h
        cases h
        exact ⟨a, List.getElem?_set_self (by rw [← I.len]; exact hl), hR, h0, ho⟩
      · rw [List.set_eq_of_length_le (by omega)] at h
        rw [List.getElem?_eq_none (by omega)] at h; cases h
    · rw [List.getElem?_set_ne hj] at h ⊢
      exact I.ow j e h
  ne := fun j k d' e b h1 h2 h3 h4 => by
    have key : ∀ m n (x y : D), i = m → i ≠ n → (σ.set i (some (.ow d)))[n]? = some (some (.ow y)) → (τ.set i (some (.ref a)))[m]? = some (some (.ref b)) → (τ.set i (some (.ref a)))[n]? = some (some (.ref b)) → False := fun m n x y hm hn' q1 q2 q3 => by
      subst hm
      rw [List.getElem?_set_ne hn'] at q1 q3
      have hl : i < τ.length := by
        cases Nat.lt_or_ge i τ.length with
        | inl z => exact z
        | inr z =>
          rw [List.getElem?_eq_none (by rw [List.length_set]; exact z)] at q2; cases q2
      rw [List.getElem?_set_self hl] at q2
      cases q2
      exact hn ⟨n, y, q1, q3⟩
    by_cases hj : i = j
    · by_cases hk : i = k
      · exact hj.symm.trans hk
      · exact (key j k d' e hj hk h2 h3 h4).elim
    · by_cases hk : i = k
      · exact (key k j e d' hk hj h1 h4 h3).elim
      · rw [List.getElem?_set_ne hj] at h1 h3
        rw [List.getElem?_set_ne hk] at h2 h4
        exact I.ne j k d' e b h1 h2 h3 h4
  len := by rw [List.length_set, List.length_set]; exact I.len
theorem RO.mut (I : RO K R0 H0 R H σ τ) {i : Nat} {a : Addr} {c d : D} {o : HO} (h1 : σ[i]? = some (some (.ow c))) (h2 : τ[i]? = some (some (.ref a))) (ho : Own K R (upd H a o) a d) : RO K R0 H0 R (upd H a o) (σ.set i (some (.ow d))) τ := by
  obtain ⟨a', q1, q2, q3, q4⟩ := I.ow i c h1
  rw [h2] at q1; cases q1
  have other : ∀ b, b ≠ a → upd H a o b = H b := fun b hb => upd_ne hb
  refine ⟨⟨I.ext.rr, fun b x e => ?_, fun b x e => ?_, I.ext.new⟩, fun j e h => ?_, fun j e h => ?_, fun j k d' e b z1 z2 z3 z4 => ?_, by rw [List.length_set]; exact I.len⟩
  · rw [other b (fun z => by rw [z, q2] at e; cases e)]; exact I.ext.sub _ _ e
  · rw [other b (fun z => by rw [z, q3] at e; cases e)]; exact I.ext.hh _ _ e
  · by_cases hj : i = j
    · subst hj
      have hl : i < σ.length := (List.getElem?_eq_some_iff.mp h1).1
      rw [List.getElem?_set_self hl] at h; cases h
    · rw [List.getElem?_set_ne hj] at h
      exact I.sh j e h
  · by_cases hj : i = j
    · subst hj
      have hl : i < σ.length := (List.getElem?_eq_some_iff.mp h1).1
      rw [List.getElem?_set_self hl] at h; cases h
      exact ⟨a, h2, q2, q3, ho⟩
    · rw [List.getElem?_set_ne hj] at h
      obtain ⟨b, r1, r2, r3, r4⟩ := I.ow j e h
      refine ⟨b, r1, r2, r3, ?_⟩
      have nb : b ≠ a := fun z => by
        subst z
        exact hj (I.ne i j c e b h1 h h2 r1)
      cases e with
      | list ds =>
        obtain ⟨vs, y1, y2⟩ := r4
        exact ⟨vs, by rw [other b nb]; exact y1, y2⟩
      | dict kvs =>
        obtain ⟨vs, y1, y2⟩ := r4
        exact ⟨vs, by rw [other b nb]; exact y1, y2⟩
      | _ => exact r4.elim
  · have back : ∀ m (x : D), (σ.set i (some (Slot.ow d)))[m]? = some (some (Slot.ow x)) → ∃ y, σ[m]? = some (some (Slot.ow y)) := fun m x h => by
      by_cases hm : i = m
      · subst hm; exact ⟨c, h1⟩
      · rw [List.getElem?_set_ne hm] at h; exact ⟨x, h⟩
    obtain ⟨y1, w1⟩ := back _ _ z1
    obtain ⟨y2, w2⟩ := back _ _ z2
    exact I.ne j k y1 y2 b w1 w2 z3 z4
theorem RO.freeze (I : RO K R0 H0 R H σ τ) {i : Nat} {c : D} (h1 : σ[i]? = some (some (.ow c))) : ∃ R', RO K R0 H0 R' H (σ.set i (some (.sh c))) τ := by
  obtain ⟨a, q1, q2, q3, q4⟩ := I.ow i c h1
  obtain ⟨o, z1, z2, z3⟩ := q4.some
  have rr : Same R (upd R a o) := same_new q2
  have hl : i < σ.length := (List.getElem?_eq_some_iff.mp h1).1
  refine ⟨upd R a o, ⟨I.ext.rr.trans rr, fun b x e => ?_, I.ext.hh, fun b x e => ?_⟩, fun j e h => ?_, fun j e h => ?_, fun j k d' e b w1 w2 w3 w4 => ?_, by rw [List.length_set]; exact I.len⟩
  · by_cases hb : b = a
    · subst hb; rw [upd_same] at e; rw [z1]; exact e
    · rw [upd_ne hb] at e; exact I.ext.sub _ _ e
  · by_cases hb : b = a
    · subst hb; exact .inr (.inl q3)
    · rw [upd_ne hb] at e; exact I.ext.new _ _ e
  · by_cases hj : i = j
    · subst hj
      rw [List.getElem?_set_self hl] at h
      cases h
      refine ⟨_, q1, ?_⟩
      cases c with
      | list ds =>
        obtain ⟨vs, z, r⟩ := q4
        rw [z1] at z
        cases z
        exact .lst (.inl (.inl upd_same)) (r.mono rr)
      | dict kvs =>
        obtain ⟨vs, z, r⟩ := q4
        rw [z1] at z
        cases z
        exact .dT (.inl upd_same) (r.mono rr)
      | _ => exact q4.elim
    · rw [List.getElem?_set_ne hj] at h
      obtain ⟨v, y1, y2⟩ := I.sh j e h
      exact ⟨v, y1, y2.mono rr⟩
  · by_cases hj : i = j
    · subst hj
      rw [List.getElem?_set_self hl] at h; cases h
    · rw [List.getElem?_set_ne hj] at h
      obtain ⟨b, r1, r2, r3, r4⟩ := I.ow j e h
      have nb : b ≠ a := fun z => by
        subst z
        exact hj (I.ne i j c e b h1 h q1 r1)
      exact ⟨b, r1, by rw [upd_ne nb]; exact r2, r3, r4.mono rr (Same.refl _)⟩
  · have back : ∀ m (x : D), (σ.set i (some (Slot.sh c)))[m]? = some (some (Slot.ow x)) → σ[m]? = some (some (Slot.ow x)) := fun m x h => by
      by_cases hm : i = m
      · subst hm
        rw [List.getElem?_set_self hl] at h; cases h
      · rw [List.getElem?_set_ne hm] at h; exact h
    exact I.ne j k d' e b (back _ _ w1) (back _ _ w2) w3 w4
end

inductive Out where
  | nx | bk | ct
  | rt (d : D)
inductive SR where
  | ok (o : Out) (σ : SS)
  | exc (e : Exn) (σ : SS)
  | stuck
abbrev SF := SS → SR
def thenR {α : Type} (r : Res α) (σ : SS) (k : α → SR) : SR := match r with
  | .ok a => k a
  | .exc e => .exc e σ
  | .stuck => .stuck
@[simp] theorem thenR_ok {α : Type} (a : α) (σ : SS) (k : α → SR) : thenR (.ok a) σ k = k a := rfl
@[simp] theorem thenR_exc {α : Type} (e : Exn) (σ : SS) (k : α → SR) : thenR (.exc e : Res α) σ k = .exc e σ := rfl
@[simp] theorem thenR_stuck {α : Type} (σ : SS) (k : α → SR) : thenR (.stuck : Res α) σ k = .stuck := rfl

def SPost (X : Cx) (E : WX) (R0 H0 : Hp) (Dn : Ends) : SR → Prop
  | .ok .nx σ => ∀ R H τ, RO X.K R0 H0 R H σ τ → Dn.nx τ H
  | .ok .bk σ => ∀ R H τ, RO X.K R0 H0 R H σ τ → Dn.bk τ H
  | .ok .ct σ => ∀ R H τ, RO X.K R0 H0 R H σ τ → Dn.ct τ H
  | .ok (.rt d) _ => ∀ v R H, Ext R0 H0 R H → Rp X.K R v d → Dn.rt v H
  | .exc x σ => ∀ c dx R H τ, RO X.K R0 H0 R H σ τ → ExL X.K X.mg H0 x c dx H → E c dx τ H
  | .stuck => False
structure DS1 (X : Cx) (E : WX) (st : Stmt) (g : SF) : Prop where
  run : ∃ t : TS, PS X st t ∧ ∀ (R0 H0 : Hp) (σ : SS) (τ : L2.St) (R H : Hp) (Dn : Ends), RO X.K R0 H0 R H σ τ → SPost X E R0 H0 Dn (g σ) → t Dn τ H
structure DSs (X : Cx) (E : WX) (st : List Stmt) (g : SF) : Prop where
  run : ∃ t : TS, PSs X st t ∧ ∀ (R0 H0 : Hp) (σ : SS) (τ : L2.St) (R H : Hp) (Dn : Ends), RO X.K R0 H0 R H σ τ → SPost X E R0 H0 Dn (g σ) → t Dn τ H

section
variable {X : Cx} {E : WX} {st : Stmt} {sts : List Stmt} {e : Expr} {f : DS → Res D} {g h : SF} {pos : Pos} {R0 H0 R H : Hp} {σ : SS} {τ : L2.St} {Dn : Ends}
theorem post_mask {α β : Type} {rel : Hp → β → α → Prop} {r : Res α} {k : α → SR} {T : β → Hp → Prop} (I : RO X.K R0 H0 R H σ τ) (q : SPost X E R0 H0 Dn (thenR r σ k))
    (z : ∀ d v R' H', RO X.K R0 H0 R' H' σ τ → rel R' v d → SPost X E R0 H0 Dn (k d) → T v H') : Post X.K X.mg (xat E τ) rel R H T r := by
  cases r with
  | ok d => exact fun v R' H' x y => z d v R' H' (I.step x) y q
  | exc x => exact fun c dx H' s y => q c dx R H' τ (I.same s) (y.back I.ext.hh)
  | stuck => exact q
theorem post_view {r : Res D} {k : D → SR} {T : V → Hp → Prop} (I : RO X.K R0 H0 R H σ τ) (q : SPost X E R0 H0 Dn (thenR r σ fun d => if flat d then k d else .stuck))
    (z : ∀ d v R' H', RO X.K R0 H0 R' H' σ τ → Rp X.K R' v d → SPost X E R0 H0 Dn (k d) → T v H') : Post X.K X.mg (xat E τ) (rV X.K) (full σ τ R H) H T r := by
  cases r with
  | ok d =>
    refine fun v R' H' x y => ?_
    have q' : SPost X E R0 H0 Dn (if flat d then k d else .stuck) := q
    by_cases hf : flat d = true
    · rw [if_pos hf] at q'
      obtain ⟨J, tu⟩ := I.stepF x
      exact z d v _ H' J (Rp.flat tu y hf) q'
    · rw [if_neg hf] at q'; exact q'.elim
  | exc x => exact fun c dx H' s y => q c dx R H' τ (I.same s) (y.back I.ext.hh)
  | stuck => exact q
theorem post_viewA {r : Res (List D)} {k : List D → SR} {T : List V → Hp → Prop} (I : RO X.K R0 H0 R H σ τ) (q : SPost X E R0 H0 Dn (thenR r σ fun d => if flatA d then k d else .stuck))
    (z : ∀ d v R' H', RO X.K R0 H0 R' H' σ τ → RpA X.K R' v d → SPost X E R0 H0 Dn (k d) → T v H') : Post X.K X.mg (xat E τ) (rA X.K) (full σ τ R H) H T r := by
  cases r with
  | ok d =>
    refine fun v R' H' x y => ?_
    have q' : SPost X E R0 H0 Dn (if flatA d then k d else .stuck) := q
    by_cases hf : flatA d = true
    · rw [if_pos hf] at q'
      obtain ⟨J, tu⟩ := I.stepF x
      exact z d v _ H' J (RpA.flat tu y hf) q'
    · rw [if_neg hf] at q'; exact q'.elim
  | exc x => exact fun c dx H' s y => q c dx R H' τ (I.same s) (y.back I.ext.hh)
  | stuck => exact q
theorem post_test {r : Res Bool} {k : Bool → SR} {T : Bool → Hp → Prop} (I : RO X.K R0 H0 R H σ τ) (q : SPost X E R0 H0 Dn (thenR r σ k))
    (z : ∀ b R' H', RO X.K R0 H0 R' H' σ τ → SPost X E R0 H0 Dn (k b) → T b H') : Post X.K X.mg (xat E τ) rB (full σ τ R H) H T r := by
  cases r with
  | ok d =>
    refine fun v R' H' x y => ?_
    subst y
    exact z v _ H' (I.stepF x).1 q
  | exc x => exact fun c dx H' s y => q c dx R H' τ (I.same s) (y.back I.ext.hh)
  | stuck => exact q

def sNil : SF := fun σ => .ok .nx σ
def sSeq (g h : SF) : SF := fun σ => match g σ with
  | .ok .nx σ' => h σ'
  | r => r
theorem dss_nil : DSs X E [] sNil := ⟨_, pss_nil, fun _ _ _ _ _ _ _ I q => q _ _ _ I⟩
theorem dss_one (a : DS1 X E st g) : DSs X E [st] g := by
  obtain ⟨t, h1, h2⟩ := a
  exact ⟨t, pss_one h1, h2⟩
theorem dss_cons (a : DS1 X E st g) (b : DSs X E sts h) : DSs X E (st :: sts) (sSeq g h) := by
  obtain ⟨t, h1, h2⟩ := a
  obtain ⟨u, h3, h4⟩ := b
  refine ⟨_, pss_cons h1 h3, fun R0 H0 σ τ R H Dn I q => h2 R0 H0 σ τ R H _ I ?_⟩
  unfold sSeq at q
  cases z : g σ with
  | ok o σ' =>
    rw [z] at q
    cases o with
    | nx => exact fun R' H' τ' J => h4 R0 H0 σ' τ' R' H' Dn J q
    | bk => exact q
    | ct => exact q
    | rt d => exact q
  | exc x σ' => rw [z] at q; exact q
  | stuck => rw [z] at q; exact q
def sFreeze (i : Nat) (h : SF) : SF := fun σ => match σ[i]? with
  | some (some (.ow c)) => h (σ.set i (some (.sh c)))
  | _ => h σ
theorem dss_freeze (i : Nat) (b : DSs X E sts h) : DSs X E sts (sFreeze i h) := by
  obtain ⟨u, h3, h4⟩ := b
  refine ⟨u, h3, fun R0 H0 σ τ R H Dn I q => ?_⟩
  unfold sFreeze at q
  cases z : σ[i]? with
  | none => rw [z] at q; exact h4 R0 H0 σ τ R H Dn I q
  | some o =>
    cases o with
    | none => rw [z] at q; exact h4 R0 H0 σ τ R H Dn I q
    | some s =>
      cases s with
      | sh d => rw [z] at q; exact h4 R0 H0 σ τ R H Dn I q
      | ow c =>
        rw [z] at q
        obtain ⟨R', J⟩ := I.freeze z
        exact h4 R0 H0 _ τ R' H Dn J q
theorem ds_pass : DS1 X E (.Pass pos) sNil := ⟨_, ps_pass, fun _ _ _ _ _ _ _ I q => q _ _ _ I⟩
def sBreak : SF := fun σ => .ok .bk σ
def sCont : SF := fun σ => .ok .ct σ
theorem ds_break : DS1 X E (.Break pos) sBreak := ⟨_, ps_break, fun _ _ _ _ _ _ _ I q => q _ _ _ I⟩
theorem ds_cont : DS1 X E (.Continue pos) sCont := ⟨_, ps_continue, fun _ _ _ _ _ _ _ I q => q _ _ _ I⟩
def sStuck : SF := fun _ => .stuck
theorem ds_never : DS1 X E st sStuck := ⟨_, ps_never, fun _ _ _ _ _ _ _ _ q => q.elim⟩
def sRet (f : DS → Res D) : SF := fun σ => thenR (f (view σ)) σ fun d => .ok (.rt d) σ
theorem ds_ret (he : DE X E e f) : DS1 X E (.Return (some e) pos) (sRet f) := by
  obtain ⟨t, h1, h2⟩ := he
  refine ⟨_, ps_ret h1, fun R0 H0 σ τ R H Dn I q => h2 (view σ) τ (full σ τ R H) H _ I.viewed I.fullH ?_⟩
  unfold sRet at q
  cases z : f (view σ) with
  | ok d =>
    rw [z] at q
    exact fun v R' H' x y => q v R' H' (I.extF.trans x) y
  | exc x => rw [z] at q; exact fun c dx H' s y => q c dx R H' τ (I.same s) (y.back I.ext.hh)
  | stuck => rw [z] at q; exact q
def sRetN : SF := fun σ => .ok (.rt .none) σ
theorem ds_retN : DS1 X E (.Return none pos) sRetN := ⟨_, ps_retN, fun R0 H0 σ τ R H Dn I q => q .non R H I.ext Rp.non⟩
def sExpr (f : DS → Res D) : SF := fun σ => thenR (f (mask σ)) σ fun _ => .ok .nx σ
theorem ds_expr (he : DE X E e f) (hs : swapsWith e none pos.line X.env = pure false := by rfl) : DS1 X E (.Expr e pos) (sExpr f) := by
  obtain ⟨t, h1, h2⟩ := he
  exact ⟨_, ps_expr h1 hs, fun R0 H0 σ τ R H Dn I q => h2 (mask σ) τ R H _ I.mask I.ext.sub (post_mask I q fun d v R' H' J y z => z R' H' τ J)⟩
def sIf (p : DS → Res Bool) (g h : SF) : SF := fun σ => thenR (p (view σ)) σ fun b => if b then g σ else h σ
theorem ds_if {c : Expr} {a b : List Stmt} {p : DS → Res Bool} (hc : DT X E c p) (ha : DSs X E a g) (hb : DSs X E b h) : DS1 X E (.If c a b pos) (sIf p g h) := by
  obtain ⟨t, h1, h2⟩ := hc
  obtain ⟨ta, a1, a2⟩ := ha
  obtain ⟨tb, b1, b2⟩ := hb
  refine ⟨_, ps_if h1 a1 b1, fun R0 H0 σ τ R H Dn I q => h2 (view σ) τ (full σ τ R H) H _ I.viewed I.fullH (post_test I q fun d R' H' J y => ?_)⟩
  cases d with
  | true => exact a2 R0 H0 σ τ R' H' Dn J y
  | false => exact b2 R0 H0 σ τ R' H' Dn J y

theorem wipe_get (τ : L2.St) : ∀ (vs : List Nat) (j : Nat), (wipe τ vs)[j]? = if j ∈ vs ∧ j < τ.length then some none else τ[j]?
  | [], j => by simp [wipe]
  | v :: vs, j => by
    show ((wipe τ vs).set v none)[j]? = _
    by_cases hv : v = j
    · subst hv
      by_cases hl : v < τ.length
      · rw [List.getElem?_set_self (by rw [wipe_length]; exact hl), if_pos ⟨by simp, hl⟩]
      · rw [List.getElem?_eq_none (by rw [List.length_set, wipe_length]; omega), if_neg (fun z => hl z.2), List.getElem?_eq_none (by omega)]
    · rw [List.getElem?_set_ne hv, wipe_get τ vs j]
      by_cases hj : j ∈ vs ∧ j < τ.length
      · rw [if_pos hj, if_pos ⟨List.mem_cons_of_mem _ hj.1, hj.2⟩]
      · rw [if_neg hj, if_neg (fun z => hj ⟨(List.mem_cons.mp z.1).elim (fun e => absurd e.symm hv) id, z.2⟩)]
def Wp (ix : List Nat) (τ τ' : L2.St) : Prop := ∀ vs : List Nat, (∀ i ∈ ix, i ∈ vs) → wipe τ' vs = wipe τ vs
theorem Wp.refl (ix : List Nat) (τ : L2.St) : Wp ix τ τ := fun _ _ => rfl
theorem Wp.trans {ix jx : List Nat} {τ τ1 τ2 : L2.St} (a : Wp ix τ τ1) (b : Wp jx τ1 τ2) : Wp (ix ++ jx) τ τ2 := fun vs h => (b vs fun i hi => h i (List.mem_append_right _ hi)).trans (a vs fun i hi => h i (List.mem_append_left _ hi))
theorem Wp.set (i : Nat) (τ : L2.St) (x : Option V) : Wp [i] τ (τ.set i x) := fun vs h => by
  have hi : i ∈ vs := h i (by simp)
  apply List.ext_getElem?
  intro j
  rw [wipe_get, wipe_get, List.length_set]
  by_cases hj : j ∈ vs ∧ j < τ.length
  · rw [if_pos hj, if_pos hj]
  · rw [if_neg hj, if_neg hj]
    by_cases e : i = j
    · subst e
      have hl : ¬ i < τ.length := fun z => hj ⟨hi, z⟩
      rw [List.getElem?_eq_none (by rw [List.length_set]; omega), List.getElem?_eq_none (by omega)]
    · rw [List.getElem?_set_ne e]
abbrev GF := D → SS → Option SS
structure DG (X : Cx) (tg : Expr) (ix : List Nat) (p : GF) : Prop where
  run : ∃ t : TG, PG X tg t ∧ ∀ (R0 H0 : Hp) (d : D) (v : V) (σ σ' : SS) (τ : L2.St) (R H : Hp) (Q : L2.St → Hp → Prop), RO X.K R0 H0 R H σ τ → Rp X.K R v d → p d σ = some σ' → (∀ R' H' τ', Same R R' → Wp ix τ τ' → RO X.K R0 H0 R' H' σ' τ' → Q τ' H') → t v τ H Q
structure DGs (X : Cx) (tgs : List Expr) (ix : List Nat) (p : List D → SS → Option SS) : Prop where
  run : ∃ t : TGs, PGs X tgs t ∧ ∀ (R0 H0 : Hp) (d : List D) (v : List V) (σ σ' : SS) (τ : L2.St) (R H : Hp) (Q : L2.St → Hp → Prop), RO X.K R0 H0 R H σ τ → RpA X.K R v d → p d σ = some σ' → (∀ R' H' τ', Same R R' → Wp ix τ τ' → RO X.K R0 H0 R' H' σ' τ' → Q τ' H') → t v τ H Q
def gN (i : Nat) : GF := fun d σ => some (σ.set i (some (.sh d)))
theorem dg_name {i : Nat} {x : Str} (hN : X.N.Nodup) (hi : X.N[i]? = some x) (hx : Loc X.env.scope x) (hf : X.fn x = true ∨ X.env.scope.names.lookup x = some .local := by first | exact .inl rfl | exact .inr rfl | assumption) : DG X (.Name x pos) [i] (gN i) :=
  ⟨_, pg_name hN hi hx hf, fun R0 H0 d v σ σ' τ R H Q I r e q => by cases e; exact q R H _ (Same.refl _) (Wp.set i _ _) (I.put r)⟩
def gsNil : List D → SS → Option SS := fun ds σ => match ds with
  | [] => some σ
  | _ => none
def gsCons (p : GF) (ps : List D → SS → Option SS) : List D → SS → Option SS := fun ds σ => match ds with
  | d :: ds => (p d σ).bind (ps ds)
  | [] => none
theorem dgs_nil : DGs X [] [] gsNil := ⟨_, pgs_nil, fun R0 H0 d v σ σ' τ R H Q I r e q => by
  cases r with
  | nil => cases e; exact ⟨rfl, q _ _ _ (Same.refl _) (Wp.refl _ _) I⟩
  | cons _ _ => cases e⟩
theorem dgs_cons {tg : Expr} {tgs : List Expr} {p : GF} {ps : List D → SS → Option SS} {ix jx : List Nat} (a : DG X tg ix p) (b : DGs X tgs jx ps) (hs : (assignEach (tg :: tgs) X.env).map (·.2) = assign tg X.env :: (assignEach tgs X.env).map (·.2) := by rfl) : DGs X (tg :: tgs) (ix ++ jx) (gsCons p ps) := by
  obtain ⟨t, h1, h2⟩ := a
  obtain ⟨u, h3, h4⟩ := b
  refine ⟨_, pgs_cons h1 h3 hs, fun R0 H0 d v σ σ' τ R H Q I r e q => ?_⟩
  cases r with
  | nil => cases e
  | cons r1 r2 =>
    rename_i v vs d ds
    have e' : (p d σ).bind (ps ds) = some σ' := e
    cases z : p d σ with
    | none => rw [z] at e'; cases e'
    | some σ1 =>
      rw [z] at e'
      refine ⟨v, vs, rfl, ?_⟩
      exact h2 R0 H0 d v σ σ1 τ R H _ I r1 z fun R1 H1 τ1 s w J => h4 R0 H0 ds vs σ1 σ' τ1 R1 H1 Q J (r2.mono s) e' fun R2 H2 τ2 s2 w2 J2 => q R2 H2 τ2 (s.trans s2) (w.trans w2) J2
def gT (n : Nat) (ps : List D → SS → Option SS) : GF := fun d σ => match d with
  | .tuple ds => if ds.length = n then ps ds σ else none
  | _ => none
theorem dg_tup {tgs : List Expr} {k n : Nat} {ps : List D → SS → Option SS} {ix : List Nat} (hc : X.calm = true) (b : DGs X tgs ix ps) (hn : (assignEach tgs X.env).length = n := by rfl) (hst : (assignEach tgs X.env).findIdx? (·.1) = none := by rfl) : DG X (.Tuple tgs k pos) ix (gT n ps) := by
  obtain ⟨u, h3, h4⟩ := b
  refine ⟨_, pg_tup hc h3 hn hst, fun R0 H0 d v σ σ' τ R H Q I r e q => ?_⟩
  cases r with
  | tup hq ha =>
    rename_i a xs ds
    have e' : (if ds.length = n then ps ds σ else none) = some σ' := e
    by_cases hl : ds.length = n
    · rw [if_pos hl] at e'
      exact ⟨a, xs, rfl, SqT.of (I.ext.sub _ _ hq), by rw [ha.length]; exact hl, h4 R0 H0 ds xs σ σ' τ R H Q I ha e' q⟩
    · rw [if_neg hl] at e'; cases e'
  | _ => cases e

def optK (o : Option SS) : SR := match o with
  | some σ => .ok .nx σ
  | none => .stuck
def sAsg (p : GF) (f : DS → Res D) : SF := fun σ => thenR (f (mask σ)) σ fun d => optK (p d σ)
def sAsgV (p : GF) (f : DS → Res D) : SF := fun σ => thenR (f (view σ)) σ fun d => if flat d then optK (p d σ) else .stuck
theorem optK_run {p : Option SS} {R' H' : Hp} (I : RO X.K R0 H0 R H σ τ) (q : SPost X E R0 H0 Dn (optK p)) : ∃ σ', p = some σ' ∧ ∀ R H τ, RO X.K R0 H0 R H σ' τ → Dn.nx τ H := by
  cases p with
  | none => exact q.elim
  | some σ' => exact ⟨σ', rfl, q⟩
theorem ds_asg {tg : Expr} {p : GF} {ix : List Nat} (he : DE X E e f) (hg : DG X tg ix p) (hs : swapsWithSole [tg] e pos.line X.env = pure false := by rfl) (hw : swappedStores [tg] e X.env = pure none := by rfl)
    (h1 : (assignEach [tg] X.env).map (·.2) = [assign tg X.env] := by rfl) : DS1 X E (.Assign [tg] e pos) (sAsg p f) := by
  obtain ⟨t, e1, e2⟩ := he
  obtain ⟨u, g1, g2⟩ := hg
  refine ⟨_, ps_asg e1 g1 hs hw h1, fun R0 H0 σ τ R H Dn I q => e2 (mask σ) τ R H _ I.mask I.ext.sub (post_mask I q fun d v R' H' J y z => ?_)⟩
  obtain ⟨σ', z1, z2⟩ := optK_run (R' := R') (H' := H') J z
  exact g2 R0 H0 d v σ σ' τ R' H' _ J y z1 fun R2 H2 τ2 _ _ J2 => z2 R2 H2 τ2 J2
theorem ds_asgV {tg : Expr} {p : GF} {ix : List Nat} (he : DE X E e f) (hg : DG X tg ix p) (hs : swapsWithSole [tg] e pos.line X.env = pure false := by rfl) (hw : swappedStores [tg] e X.env = pure none := by rfl)
    (h1 : (assignEach [tg] X.env).map (·.2) = [assign tg X.env] := by rfl) : DS1 X E (.Assign [tg] e pos) (sAsgV p f) := by
  obtain ⟨t, e1, e2⟩ := he
  obtain ⟨u, g1, g2⟩ := hg
  refine ⟨_, ps_asg e1 g1 hs hw h1, fun R0 H0 σ τ R H Dn I q => e2 (view σ) τ (full σ τ R H) H _ I.viewed I.fullH (post_view I q fun d v R' H' J y z => ?_)⟩
  obtain ⟨σ', z1, z2⟩ := optK_run (R' := R') (H' := H') J z
  exact g2 R0 H0 d v σ σ' τ R' H' _ J y z1 fun R2 H2 τ2 _ _ J2 => z2 R2 H2 τ2 J2
def sSet (i : Nat) (f : DS → Res D) : SF := fun σ => thenR (f (mask σ)) σ fun d => .ok .nx (σ.set i (some (.sh d)))
def sSetV (i : Nat) (f : DS → Res D) : SF := fun σ => thenR (f (view σ)) σ fun d => if flat d then .ok .nx (σ.set i (some (.sh d))) else .stuck
variable {x : Str} {pos' : Pos} {i : Nat}
theorem ds_set (i : Nat) (hN : X.N.Nodup) (hi : X.N[i]? = some x) (hx : Loc X.env.scope x) (he : DE X E e f) (hs : swapsWith e (some (.Name x pos')) pos.line X.env = pure false := by rfl) (hf : X.fn x = true ∨ X.env.scope.names.lookup x = some .local := by first | exact .inl rfl | exact .inr rfl | assumption) :
    DS1 X E (.Assign [.Name x pos'] e pos) (sSet i f) := by
  obtain ⟨t, e1, e2⟩ := he
  exact ⟨_, ps_set hN hi hx e1 hs hf, fun R0 H0 σ τ R H Dn I q => e2 (mask σ) τ R H _ I.mask I.ext.sub (post_mask I q fun d v R' H' J y z => z _ _ _ (J.put y))⟩
theorem ds_setV (i : Nat) (hN : X.N.Nodup) (hi : X.N[i]? = some x) (hx : Loc X.env.scope x) (he : DE X E e f) (hs : swapsWith e (some (.Name x pos')) pos.line X.env = pure false := by rfl) (hf : X.fn x = true ∨ X.env.scope.names.lookup x = some .local := by first | exact .inl rfl | exact .inr rfl | assumption) :
    DS1 X E (.Assign [.Name x pos'] e pos) (sSetV i f) := by
  obtain ⟨t, e1, e2⟩ := he
  exact ⟨_, ps_set hN hi hx e1 hs hf, fun R0 H0 σ τ R H Dn I q => e2 (view σ) τ (full σ τ R H) H _ I.viewed I.fullH (post_view I q fun d v R' H' J y z => z _ _ _ (J.put y))⟩
def two (i j : Nat) (σ : SS) : List D → SR
  | [x, y] => .ok .nx ((σ.set i (some (.sh x))).set j (some (.sh y)))
  | _ => .stuck
def sPar (i j : Nat) (f : DS → Res (List D)) : SF := fun σ => thenR (f (mask σ)) σ (two i j σ)
theorem ds_par (i j : Nat) {x y : Str} {a b : Expr} {f : DS → Res (List D)} {px py pt : Pos} {kt k2 pt2} (hc : X.calm = true) (hN : X.N.Nodup) (hi : X.N[i]? = some x) (hj : X.N[j]? = some y) (hij : i ≠ j)
    (hx : X.env.scope.names.lookup x = some .local) (hy : X.env.scope.names.lookup y = some .local) (ha : DA X E [a, b] f)
    (hw : swappedStores [.Tuple [.Name x px, .Name y py] kt pt] (.Tuple [a, b] k2 pt2) X.env = pure (some [x, y]))
    (hs : swapsWithSole [.Tuple [.Name x px, .Name y py] kt pt] (.Tuple [a, b] k2 pt2) pos.line X.env = pure false := by rfl) :
    DS1 X E (.Assign [.Tuple [.Name x px, .Name y py] kt pt] (.Tuple [a, b] k2 pt2) pos) (sPar i j f) := by
  obtain ⟨t, e1, e2⟩ := ha
  refine ⟨_, ps_par hc hN hi hj hij hx hy e1 hw hs, fun R0 H0 σ τ R H Dn I q => e2 (mask σ) τ R H _ I.mask I.ext.sub (post_mask I q fun d v R' H' J y z => ?_)⟩
  match d, v, y, z with
  | [d1, d2], _, .cons r1 (.cons r2 .nil), z => exact ⟨_, _, rfl, z _ _ _ ((J.put r1).put r2)⟩
  | [], _, _, z => exact z.elim
  | [_], _, _, z => exact z.elim
  | _ :: _ :: _ :: _, _, _, z => exact z.elim
end
end E3

namespace E3
open PySem PySem.Spec PyProof.Rows L2

section
variable {X : Cx} {E : WX}
theorem OpR.or {f : Value → Value → Sem Value} {r s : R2} (h : OpR X f r) (k : OpR X f s) : OpR X f (fun x y H Q => r x y H Q ∨ s x y H Q) := fun pins s σ H x y v u Q I rx ry q => by
  rcases q with q | q
  · exact h pins s σ H x y v u Q I rx ry q
  · exact k pins s σ H x y v u Q I rx ry q
theorem CallR.or {f : Value} {r s : List V → Hp → VK → Prop} (h : CallR X f r) (k : CallR X f s) : CallR X f (fun x H Q => r x H Q ∨ s x H Q) := fun pins s σ H xs us Q I rx q => by
  rcases q with q | q
  · exact h pins s σ H xs us Q I rx q
  · exact k pins s σ H xs us Q I rx q
def rCatG (K : PySem.W.Frag) : R2 := fun x y H Q => ∃ l b xs zs, x = .ref l ∧ y = .ref b ∧ LsQ K H l xs ∧ LsQ K H b zs ∧ xs.length + zs.length ≤ sizeLine ∧ ∀ p, H p = none → Q (.ref p) (upd H p (.lst (xs ++ zs)))
theorem op_catG : OpR X (binaryOp .Add) (rCatG X.K) := fun pins s σ H x y v u Q I rx ry h => by
  obtain ⟨l, b, xs, zs, rfl, rfl, ha, hb, hz, q⟩ := h
  cases rx
  cases ry
  obtain ⟨z1, i1, n1, r1, e1⟩ := ha.at I
  obtain ⟨z2, i2, n2, r2, e2⟩ := hb.at I
  have l1 := r1.length
  have l2 := r2.length
  refine PySem.P.add_list e1 e2 ?_ (by rw [List.size_toArray, List.size_toArray]; omega)
  rw [show i1.toArray ++ i2.toArray = (i1 ++ i2).toArray by simp]
  exact ⟨.ref _, _, I.lnew (t' := s.toks) (r1.append r2) (by rw [List.length_append]; omega), rfl, q _ I.fresh⟩

def addD : D → D → Res D
  | .int i, .int j => .ok (.int (i + j))
  | .str i, .str j => if i.length + j.length ≤ sizeLine then .ok (.str (i ++ j)) else .stuck
  | .tuple xs, .tuple ys => if xs.length + ys.length ≤ sizeLine then .ok (.tuple (xs ++ ys)) else .stuck
  | .list xs, .list ys => if xs.length + ys.length ≤ sizeLine then .ok (.list (xs ++ ys)) else .stuck
  | _, _ => .stuck
theorem RpA.nil_iff {K : PySem.W.Frag} {R : Hp} {vs : List V} {ds : List D} (h : RpA K R vs ds) : vs = [] ↔ ds = [] := by
  cases h with
  | nil => exact ⟨fun _ => rfl, fun _ => rfl⟩
  | cons a b => exact ⟨fun z => (by cases z), fun z => (by cases z)⟩
theorem od_add : OpD X (binaryOp .Add) addD := by
  refine ⟨_, (op_add.or op_add_str).or (op_catA.or op_catG), fun v w x y R H Q Ex rx ry s h => ?_⟩
  cases rx with
  | int i => cases ry with
    | int j => exact .inl (.inl ⟨i, j, rfl, rfl, Post.now s (Rp.int _) h⟩)
    | _ => exact h.elim
  | str i => cases ry with
    | str j =>
      simp only [addD] at h
      by_cases hl : i.length + j.length ≤ sizeLine
      · rw [if_pos hl] at h; exact .inl (.inr ⟨i, j, rfl, rfl, hl, Post.now s (Rp.str _) h⟩)
      · rw [if_neg hl] at h; exact h.elim
    | _ => exact h.elim
  | tup h1 q1 => cases ry with
    | tup h2 q2 =>
      rename_i a xs ds b ys es
      simp only [addD] at h
      by_cases hl : ds.length + es.length ≤ sizeLine
      · rw [if_pos hl] at h
        refine .inr (.inl ⟨a, b, xs, ys, rfl, rfl, SqT.of (s _ _ h1), SqT.of (s _ _ h2), by rw [q1.length, q2.length]; exact hl, fun z => ?_, fun _ z => ?_, fun _ _ p hp => new_tup (q1.append q2) s hp h⟩)
        · have e1 := q1.nil_iff.mp z
          subst e1
          exact Post.now s (Rp.tup h2 q2) h
        · have e1 := q2.nil_iff.mp z
          subst e1
          rw [List.append_nil] at h
          exact Post.now s (Rp.tup h1 q1) h
      · rw [if_neg hl] at h; exact h.elim
    | _ => exact h.elim
  | lst h1 q1 => cases ry with
    | lst h2 q2 =>
      rename_i a xs ds b ys es
      simp only [addD] at h
      by_cases hl : ds.length + es.length ≤ sizeLine
      · rw [if_pos hl] at h
        exact .inr (.inr ⟨a, b, xs, ys, rfl, rfl, ls_same s h1, ls_same s h2, by rw [q1.length, q2.length]; exact hl, fun p hp => new_lst (q1.append q2) s hp h⟩)
      · rw [if_neg hl] at h; exact h.elim
    | _ => exact h.elim
  | _ => exact h.elim
def iop (c : Int → Int → Bool) (g : Int → Int → D) : D → D → Res D
  | .int i, .int j => if c i j then .ok (g i j) else .stuck
  | _, _ => .stuck
theorem od_iop {f : Value → Value → Sem Value} {C : Int → Int → Prop} {gv : Int → Int → V} {c : Int → Int → Bool} {g : Int → Int → D} (h : OpR X f (rI C gv)) (hc : ∀ i j, c i j = true → C i j) (hg : ∀ i j R, Rp X.K R (gv i j) (g i j)) : OpD X f (iop c g) := by
  refine ⟨_, h, fun v w x y R H Q Ex rx ry s h => ?_⟩
  cases rx with
  | int i => cases ry with
    | int j =>
      simp only [iop] at h
      by_cases hl : c i j = true
      · rw [if_pos hl] at h; exact ⟨i, j, rfl, rfl, hc i j hl, Post.now s (hg i j R) h⟩
      · rw [if_neg hl] at h; exact h.elim
    | _ => exact h.elim
  | _ => exact h.elim
theorem od_iop0 {f : Value → Value → Sem Value} {gv : Int → Int → V} {g : Int → Int → D} (h : OpR X f (rI0 gv)) (hg : ∀ i j R, Rp X.K R (gv i j) (g i j)) : OpD X f (iop (fun _ _ => true) g) := by
  refine ⟨_, h, fun v w x y R H Q Ex rx ry s h => ?_⟩
  cases rx with
  | int i => cases ry with
    | int j => exact ⟨i, j, rfl, rfl, Post.now s (hg i j R) h⟩
    | _ => exact h.elim
  | _ => exact h.elim
def subD : D → D → Res D := iop (fun _ _ => true) fun i j => .int (i - j)
def mulD : D → D → Res D := iop (fun i j => decide (i.natAbs.log2 + j.natAbs.log2 < 1000000)) fun i j => .int (i * j)
def fdivD : D → D → Res D := iop (fun _ j => decide (0 < j ∧ j.natAbs.log2 < 9000)) fun i j => .int (i / j)
def modD : D → D → Res D := iop (fun _ j => decide (0 < j)) fun i j => .int (i % j)
def powD : D → D → Res D := iop (fun i j => decide (0 ≤ j ∧ j ≤ 1000000 ∧ i.natAbs < 2 ^ 64)) fun i j => .int (i ^ j.toNat)
def shlD : D → D → Res D := iop (fun i j => decide (0 ≤ j ∧ j ≤ 1000000 ∧ i.natAbs < 2 ^ 64)) fun i j => .int (i * 2 ^ j.toNat)
def shrD : D → D → Res D := iop (fun _ j => decide (0 ≤ j)) fun i j => .int (i / 2 ^ j.toNat)
def andD : D → D → Res D := iop (fun _ _ => true) fun i j => .int (Builtin.bitAnd i j)
def orD : D → D → Res D := iop (fun _ _ => true) fun i j => .int (Builtin.bitOr i j)
theorem od_sub : OpD X (binaryOp .Sub) subD := od_iop0 op_sub fun _ _ _ => Rp.int _
theorem od_mul : OpD X (binaryOp .Mult) mulD := od_iop op_mulW (fun i j h => by have := of_decide_eq_true h; exact this) fun _ _ _ => Rp.int _
theorem od_fdiv : OpD X (binaryOp .FloorDiv) fdivD := od_iop op_fdivW (fun i j h => by have := of_decide_eq_true h; exact this) fun _ _ _ => Rp.int _
theorem od_mod : OpD X (binaryOp .Mod) modD := od_iop op_mod (fun i j h => by have := of_decide_eq_true h; exact this) fun _ _ _ => Rp.int _
theorem od_pow : OpD X (binaryOp .Pow) powD := od_iop op_pow (fun i j h => by have := of_decide_eq_true h; exact this) fun _ _ _ => Rp.int _
theorem od_shl : OpD X (binaryOp .LShift) shlD := od_iop op_shl (fun i j h => by have := of_decide_eq_true h; exact this) fun _ _ _ => Rp.int _
theorem od_shr : OpD X (binaryOp .RShift) shrD := od_iop op_shr (fun i j h => by have := of_decide_eq_true h; exact this) fun _ _ _ => Rp.int _
theorem od_and : OpD X (binaryOp .BitAnd) andD := od_iop0 op_and fun _ _ _ => Rp.int _
theorem od_or : OpD X (binaryOp .BitOr) orD := od_iop0 op_or fun _ _ _ => Rp.int _
def ltD : D → D → Res D := iop (fun _ _ => true) fun i j => .bool (decide (i < j))
def leD : D → D → Res D := iop (fun _ _ => true) fun i j => .bool (decide (i ≤ j))
def gtD : D → D → Res D := iop (fun _ _ => true) fun i j => .bool (decide (j < i))
def geD : D → D → Res D := iop (fun _ _ => true) fun i j => .bool (decide (j ≤ i))
theorem od_lt : OpD X (compareOp .Lt) ltD := od_iop0 op_lt fun _ _ _ => Rp.bl _
theorem od_le : OpD X (compareOp .LtE) leD := od_iop0 op_le fun _ _ _ => Rp.bl _
theorem od_gt : OpD X (compareOp .Gt) gtD := od_iop0 op_gt fun _ _ _ => Rp.bl _
theorem od_ge : OpD X (compareOp .GtE) geD := od_iop0 op_ge fun _ _ _ => Rp.bl _
def negD : D → Res D
  | .int i => .ok (.int (-i))
  | _ => .stuck
theorem ud_neg : UnD X (unaryOp .USub) negD := by
  refine ⟨_, un_neg, fun v x R H Q Ex rx s h => ?_⟩
  cases rx with
  | int i => exact ⟨i, rfl, Post.now s (Rp.int _) h⟩
  | _ => exact h.elim

def eChain (o o' : D → D → Res D) (f g k : DS → Res D) : DS → Res D := fun σ => (f σ).bind fun x => (g σ).bind fun y => (o x y).bind fun z => match z with
  | .bool true => (k σ).bind fun w => o' y w
  | .bool false => .ok (.bool false)
  | _ => .stuck

def eqD : D → D → Res D := fun x y => if SeqAt.shaped x && SeqAt.shaped y then .ok (.bool (PyData.eqv x y)) else .stuck
def neD : D → D → Res D := fun x y => if SeqAt.shaped x && SeqAt.shaped y then .ok (.bool (!PyData.eqv x y)) else .stuck
theorem od_eq (hu : X.A.units + 64 < cLine) : OpD X (compareOp .Eq) eqD := by
  refine ⟨_, op_eqD hu, fun v w x y R H Q Ex rx ry s h => ?_⟩
  unfold eqD at h
  by_cases hl : (SeqAt.shaped x && SeqAt.shaped y) = true
  · rw [if_pos hl] at h
    obtain ⟨h1, h2⟩ := Bool.and_eq_true_iff.mp hl
    exact ⟨x, y, (rx.mono s).dp (SeqAt.canLay_of_shaped h1), (ry.mono s).dp (SeqAt.canLay_of_shaped h2), h1, h2, Post.now s (Rp.bl _) h⟩
  · rw [if_neg hl] at h; exact h.elim
theorem od_ne (hu : X.A.units + 64 < cLine) : OpD X (compareOp .NotEq) neD := by
  refine ⟨_, op_neD hu, fun v w x y R H Q Ex rx ry s h => ?_⟩
  unfold neD at h
  by_cases hl : (SeqAt.shaped x && SeqAt.shaped y) = true
  · rw [if_pos hl] at h
    obtain ⟨h1, h2⟩ := Bool.and_eq_true_iff.mp hl
    exact ⟨x, y, (rx.mono s).dp (SeqAt.canLay_of_shaped h1), (ry.mono s).dp (SeqAt.canLay_of_shaped h2), h1, h2, Post.now s (Rp.bl _) h⟩
  · rw [if_neg hl] at h; exact h.elim
def isND : D → D → Res D
  | x, .none => .ok (.bool (match x with | .none => true | _ => false))
  | _, _ => .stuck
def notND : D → D → Res D
  | x, .none => .ok (.bool (match x with | .none => false | _ => true))
  | _, _ => .stuck
theorem od_isN : OpD X (compareOp .Is) isND := by
  refine ⟨_, op_isN, fun v w x y R H Q Ex rx ry s h => ?_⟩
  cases ry with
  | non =>
    refine ⟨rfl, ?_⟩
    cases rx <;> exact Post.now s (Rp.bl _) h
  | _ => cases x <;> exact h.elim
theorem od_notN : OpD X (compareOp .IsNot) notND := by
  refine ⟨_, op_notN, fun v w x y R H Q Ex rx ry s h => ?_⟩
  cases ry with
  | non =>
    refine ⟨rfl, ?_⟩
    cases rx <;> exact Post.now s (Rp.bl _) h
  | _ => cases x <;> exact h.elim
def rInT (K : PySem.W.Frag) (neg : Bool) : R2 := fun x y H Q => ∃ d ds, Dp K H x d ∧ Dp K H y (.tuple ds) ∧ SeqAt.shaped d = true ∧ SeqAt.shaped (.tuple ds) = true ∧ Q (.bl (if neg then !ds.any fun z => PyData.eqv z d else ds.any fun z => PyData.eqv z d)) H
theorem canA {ds : List D} (h : SeqAt.shaped (.tuple ds) = true) : PyData.canLayAll0 ds = true := by
  have := SeqAt.canLay_of_shaped h
  simpa [PyData.canLay0] using this
theorem op_inT (hu : X.A.units + 65 < cLine) : OpR X (compareOp .In) (rInT X.K false) := fun pins s σ H x y v u Q I rx ry h => by
  obtain ⟨d, ds, hd, he, sd, se, q⟩ := h
  obtain ⟨as, r1⟩ := Dp.reads I d x v hd rx
  obtain ⟨bs, r2⟩ := Dp.reads I (.tuple ds) y u he ry
  refine SeqAt.in_tuple_reads r2 r1 (canA se) (SeqAt.canLay_of_shaped sd) (room_in_shaped (xs := ds) sd hu) ⟨.bl _, H, I, rfl, q⟩
theorem op_notInT (hu : X.A.units + 65 < cLine) : OpR X (compareOp .NotIn) (rInT X.K true) := fun pins s σ H x y v u Q I rx ry h => by
  obtain ⟨d, ds, hd, he, sd, se, q⟩ := h
  obtain ⟨as, r1⟩ := Dp.reads I d x v hd rx
  obtain ⟨bs, r2⟩ := Dp.reads I (.tuple ds) y u he ry
  refine SeqAt.notIn_tuple_reads r2 r1 (canA se) (SeqAt.canLay_of_shaped sd) (room_in_shaped (xs := ds) sd hu) ⟨.bl _, H, I, rfl, q⟩
def memD (d : D) (ds : List D) : Bool := ds.any fun z => PyData.eqv z d
def inD : D → D → Res D
  | x, .list ds => if SeqAt.shaped x && SeqAt.shaped (.list ds) then .ok (.bool (memD x ds)) else .stuck
  | x, .tuple ds => if SeqAt.shaped x && SeqAt.shaped (.tuple ds) then .ok (.bool (memD x ds)) else .stuck
  | _, _ => .stuck
def notInD : D → D → Res D
  | x, .list ds => if SeqAt.shaped x && SeqAt.shaped (.list ds) then .ok (.bool (!memD x ds)) else .stuck
  | x, .tuple ds => if SeqAt.shaped x && SeqAt.shaped (.tuple ds) then .ok (.bool (!memD x ds)) else .stuck
  | _, _ => .stuck
theorem od_in (hu : X.A.units + 65 < cLine) : OpD X (compareOp .In) inD := by
  refine ⟨_, (op_inD hu).or (op_inT hu), fun v w x y R H Q Ex rx ry s h => ?_⟩
  cases ry with
  | lst h1 q1 =>
    rename_i a xs ds
    have h' : Post X.K X.mg Ex (rV X.K) R H Q (if SeqAt.shaped x && SeqAt.shaped (.list ds) then .ok (.bool (memD x ds)) else .stuck) := by cases x <;> exact h
    by_cases hl : (SeqAt.shaped x && SeqAt.shaped (.list ds)) = true
    · rw [if_pos hl] at h'
      obtain ⟨z1, z2⟩ := Bool.and_eq_true_iff.mp hl
      exact .inl ⟨x, ds, (rx.mono s).dp (SeqAt.canLay_of_shaped z1), (Rp.mono s (.lst h1 q1)).dp (SeqAt.canLay_of_shaped z2), z1, z2, Post.now s (Rp.bl _) h'⟩
    · rw [if_neg hl] at h'; exact h'.elim
  | tup h1 q1 =>
    rename_i a xs ds
    have h' : Post X.K X.mg Ex (rV X.K) R H Q (if SeqAt.shaped x && SeqAt.shaped (.tuple ds) then .ok (.bool (memD x ds)) else .stuck) := by cases x <;> exact h
    by_cases hl : (SeqAt.shaped x && SeqAt.shaped (.tuple ds)) = true
    · rw [if_pos hl] at h'
      obtain ⟨z1, z2⟩ := Bool.and_eq_true_iff.mp hl
      exact .inr ⟨x, ds, (rx.mono s).dp (SeqAt.canLay_of_shaped z1), (Rp.mono s (.tup h1 q1)).dp (SeqAt.canLay_of_shaped z2), z1, z2, Post.now s (Rp.bl _) h'⟩
    · rw [if_neg hl] at h'; exact h'.elim
  | _ => cases x <;> exact h.elim
theorem od_notIn (hu : X.A.units + 65 < cLine) : OpD X (compareOp .NotIn) notInD := by
  refine ⟨_, (op_notInD hu).or (op_notInT hu), fun v w x y R H Q Ex rx ry s h => ?_⟩
  cases ry with
  | lst h1 q1 =>
    rename_i a xs ds
    have h' : Post X.K X.mg Ex (rV X.K) R H Q (if SeqAt.shaped x && SeqAt.shaped (.list ds) then .ok (.bool (!memD x ds)) else .stuck) := by cases x <;> exact h
    by_cases hl : (SeqAt.shaped x && SeqAt.shaped (.list ds)) = true
    · rw [if_pos hl] at h'
      obtain ⟨z1, z2⟩ := Bool.and_eq_true_iff.mp hl
      exact .inl ⟨x, ds, (rx.mono s).dp (SeqAt.canLay_of_shaped z1), (Rp.mono s (.lst h1 q1)).dp (SeqAt.canLay_of_shaped z2), z1, z2, Post.now s (Rp.bl _) h'⟩
    · rw [if_neg hl] at h'; exact h'.elim
  | tup h1 q1 =>
    rename_i a xs ds
    have h' : Post X.K X.mg Ex (rV X.K) R H Q (if SeqAt.shaped x && SeqAt.shaped (.tuple ds) then .ok (.bool (!memD x ds)) else .stuck) := by cases x <;> exact h
    by_cases hl : (SeqAt.shaped x && SeqAt.shaped (.tuple ds)) = true
    · rw [if_pos hl] at h'
      obtain ⟨z1, z2⟩ := Bool.and_eq_true_iff.mp hl
      exact .inr ⟨x, ds, (rx.mono s).dp (SeqAt.canLay_of_shaped z1), (Rp.mono s (.tup h1 q1)).dp (SeqAt.canLay_of_shaped z2), z1, z2, Post.now s (Rp.bl _) h'⟩
    · rw [if_neg hl] at h'; exact h'.elim
  | _ => cases x <;> exact h.elim

def IxD (X : Cx) (o : D → D → Res D) : Prop :=
  ∃ r : R2, IxR X r ∧ ∀ (v w : V) (x y : D) (R H : Hp) (Q : VK) (Ex : XK), Rp X.K R v x → Rp X.K R w y → Same R H → Post X.K X.mg Ex (rV X.K) R H Q (o x y) → r v w H Q
variable {a b c e : Expr} {f g k : DS → Res D} {pos : Pos}
theorem de_ix {o : D → D → Res D} (ho : IxD X o) (ha : DE X E a f) (hb : DE X E b g) (hs : PlainIx b := by exact fun _ _ => rfl) : DE X E (.Subscript a b pos) (e2 o f g) := by
  obtain ⟨r, hr, q⟩ := ho
  obtain ⟨ta, pa, qa⟩ := ha
  obtain ⟨tb, pb, qb⟩ := hb
  exact ⟨_, pe_ix hr pa pb hs, fun σ τ R H Q hs s h => two_run (r := r) qa qb q hs s h⟩
theorem RpA.atI {K : PySem.W.Frag} {R : Hp} {vs : List V} {ds : List D} {i : Int} {d : D} (h : RpA K R vs ds) (q : L2.atI ds i = some d) : ∃ v, L2.atI vs i = some v ∧ Rp K R v d := by
  unfold L2.atI at q ⊢
  rw [h.length]
  cases z : ixN ds.length i with
  | none => rw [z] at q; cases q
  | some j =>
    rw [z] at q
    exact h.get q
def optR (o : Option D) : Res D := match o with
  | some d => .ok d
  | none => .stuck
def ixD : D → D → Res D
  | .list ds, .int i => optR (L2.atI ds i)
  | .tuple ds, .int i => optR (L2.atI ds i)
  | .str z, .int i => if z.length ≤ sizeLine then (match L2.atI z.cps.toList i with | some c => .ok (.str ⟨#[c]⟩) | none => .stuck) else .stuck
  | _, _ => .stuck
theorem id_ix : IxD X ixD := by
  refine ⟨_, ix_seq, fun v w x y R H Q Ex rx ry s h => ?_⟩
  cases rx with
  | lst h1 q1 => cases ry with
    | int i =>
      rename_i a xs ds
      have h' : Post X.K X.mg Ex (rV X.K) R H Q (optR (L2.atI ds i)) := h
      cases z : L2.atI ds i with
      | none => rw [z] at h'; exact h'.elim
      | some d =>
        rw [z] at h'
        obtain ⟨v, z1, z2⟩ := q1.atI z
        exact .inl ⟨a, xs, i, v, rfl, rfl, (ls_same s h1).sq, z1, Post.now s z2 h'⟩
    | _ => exact h.elim
  | tup h1 q1 => cases ry with
    | int i =>
      rename_i a xs ds
      have h' : Post X.K X.mg Ex (rV X.K) R H Q (optR (L2.atI ds i)) := h
      cases z : L2.atI ds i with
      | none => rw [z] at h'; exact h'.elim
      | some d =>
        rw [z] at h'
        obtain ⟨v, z1, z2⟩ := q1.atI z
        exact .inr (.inl ⟨a, xs, i, v, rfl, rfl, SqT.of (s _ _ h1), z1, Post.now s z2 h'⟩)
    | _ => exact h.elim
  | str z => cases ry with
    | int i =>
      simp only [ixD] at h
      by_cases hl : z.length ≤ sizeLine
      · rw [if_pos hl] at h
        cases q : L2.atI z.cps.toList i with
        | none => rw [q] at h; exact h.elim
        | some c =>
          rw [q] at h
          exact .inr (.inr ⟨z, i, c, rfl, rfl, hl, q, Post.now s (Rp.str _) h⟩)
      · rw [if_neg hl] at h; exact h.elim
    | _ => exact h.elim
  | _ => exact h.elim
structure DO (X : Cx) (E : WX) (e : Option Expr) (f : DS → Res (Option Int)) : Prop where
  run : ∃ t : TO, PO X e t ∧ ∀ (σ : DS) (τ : L2.St) (R H : Hp) (Q : Option Int → Hp → Prop), RS X.K R σ τ → Same R H → Post X.K X.mg (xat E τ) (fun _ (b : Option Int) c => b = c) R H Q (f σ) → t τ H Q
def oNone : DS → Res (Option Int) := fun _ => .ok none
def oSome (f : DS → Res D) : DS → Res (Option Int) := fun σ => (f σ).bind fun d => match d with
  | .int i => .ok (some i)
  | _ => .stuck
theorem do_none : DO X E none oNone := ⟨_, po_none, fun _ _ _ _ _ _ s h => Post.now s rfl h⟩
theorem do_some (ha : DE X E a f) : DO X E (some a) (oSome f) := by
  obtain ⟨ta, pa, qa⟩ := ha
  refine ⟨_, po_some pa, fun σ τ R H Q hs s h => qa σ τ R H _ hs s (post_bind s h fun x v R1 H1 e1 q1 h1 => ?_)⟩
  cases q1 with
  | int i => exact ⟨i, rfl, Post.now e1.sub rfl h1⟩
  | _ => exact h1.elim
def cutD (xs : List D) (lo hi : Option Int) : List D := (xs.drop (HT.sIx xs.length 0 lo)).take (HT.sIx xs.length xs.length hi - HT.sIx xs.length 0 lo)
theorem RpA.cut {K : PySem.W.Frag} {R : Hp} {vs : List V} {ds : List D} (lo hi : Option Int) (h : RpA K R vs ds) : RpA K R (cutV vs lo hi) (cutD ds lo hi) := by
  unfold cutV cutD
  rw [h.length]
  exact (h.drop _).take _
theorem cutD_whole {ds : List D} {lo hi : Option Int} (h : HT.sIx ds.length 0 lo = 0 ∧ HT.sIx ds.length ds.length hi = ds.length) : cutD ds lo hi = ds := by
  unfold cutD
  rw [h.1, h.2, List.drop_zero, Nat.sub_zero, List.take_length]
def slD : D → Option Int → Option Int → Res D
  | .list ds, lo, hi => .ok (.list (cutD ds lo hi))
  | .tuple ds, lo, hi => .ok (.tuple (cutD ds lo hi))
  | _, _, _ => .stuck
theorem SlR.or {r q : V → Option Int → Option Int → Hp → VK → Prop} (h : SlR X r) (k : SlR X q) : SlR X (fun x l u H Q => r x l u H Q ∨ q x l u H Q) := fun pins s σ H x v vl vu lo hi sl Q I rx hs pl pu z => by
  rcases z with z | z
  · exact h pins s σ H x v vl vu lo hi sl Q I rx hs pl pu z
  · exact k pins s σ H x v vl vu lo hi sl Q I rx hs pl pu z
def eSl (f : DS → Res D) (lo hi : DS → Res (Option Int)) : DS → Res D := fun σ => (f σ).bind fun x => (lo σ).bind fun l => (hi σ).bind fun u => slD x l u
theorem de_slice {lo hi : Option Expr} {fl fh : DS → Res (Option Int)} {p2 : Pos} (he : DE X E e f) (hl : DO X E lo fl) (hh : DO X E hi fh) : DE X E (.Subscript e (.Slice lo hi none p2) pos) (eSl f fl fh) := by
  obtain ⟨te, e1, e2⟩ := he
  obtain ⟨tl, l1, l2⟩ := hl
  obtain ⟨th, h1, h2⟩ := hh
  refine ⟨_, pe_slice (sl_list.or sl_tupA) e1 l1 h1, fun σ τ R H Q hs s h => ?_⟩
  refine e2 σ τ R H _ hs s (post_bind s h fun x v R1 H1 x1 q1 k1 => ?_)
  refine l2 σ τ R1 H1 _ (hs.mono x1.rr) x1.sub (post_bind x1.sub k1 fun l l' R2 H2 x2 q2 k2 => ?_)
  subst q2
  refine h2 σ τ R2 H2 _ ((hs.mono x1.rr).mono x2.rr) x2.sub (post_bind x2.sub k2 fun u u' R3 H3 x3 q3 k3 => ?_)
  subst q3
  have q4 := (q1.mono x2.rr).mono x3.rr
  cases q4 with
  | lst z1 z2 => exact .inl ⟨_, _, rfl, (ls_same x3.sub z1).sq, fun p hp => new_lst (z2.cut _ _) x3.sub hp k3⟩
  | tup z1 z2 =>
    rename_i a xs ds
    refine .inr ⟨a, xs, rfl, SqT.of (x3.sub _ _ z1), fun w => ?_, fun _ p hp => new_tup (z2.cut _ _) x3.sub hp k3⟩
    have k3' : Post X.K X.mg (xat E τ) (rV X.K) R3 H3 Q (.ok (.tuple (cutD ds l' u'))) := k3
    rw [cutD_whole (by rw [← z2.length]; exact w)] at k3'
    exact Post.now x3.sub (Rp.tup z1 z2) k3'
  | _ => exact k3.elim

def CallD (X : Cx) (fn : Value) (o : List D → Res D) : Prop :=
  ∃ r : List V → Hp → VK → Prop, CallR X fn r ∧ ∀ (vs : List V) (ds : List D) (R H : Hp) (Q : VK) (Ex : XK), RpA X.K R vs ds → Same R H → Post X.K X.mg Ex (rV X.K) R H Q (o ds) → r vs H Q
def eCall (o : List D → Res D) (g : DS → Res (List D)) : DS → Res D := fun σ => (g σ).bind o
variable {es : List Expr} {ga : DS → Res (List D)} {x : Str} {id T : String} {p : Pos}
theorem de_callB {o : List D → Res D} (ho : CallD X (.builtin id) o) (hg : Gl X x) (hm : X.mg x = none) (hv : bootBuiltins x = some (.builtin id)) (ha : DA X E (e :: es) ga) (hn : x ≠ "__name__" := by decide) (hdb : (x == ("__debug__" : Str)) = false := by decide)
    (he : starEach (e :: es) X.env = (false, eval e X.env) :: starEach es X.env := by rfl) (hpl : (backTo pos (starEach es X.env)).any (·.1) = false := by rfl) :
    DE X E (.Call (.Name x p) (e :: es) [] pos) (eCall o ga) := by
  obtain ⟨r, hr, q⟩ := ho
  obtain ⟨t, a1, a2⟩ := ha
  exact ⟨_, pe_callB hr hg hm hv a1 hn hdb he hpl, fun σ τ R H Q hs s h => a2 σ τ R H _ hs s (post_bind s h fun d v R1 H1 e1 q1 h1 => q v d R1 H1 Q _ q1 e1.sub h1)⟩
theorem de_callTy {o : List D → Res D} (ho : CallD X (.type T) o) (hg : Gl X x) (hm : X.mg x = none) (hv : bootBuiltins x = some (.type T)) (ha : DA X E (e :: es) ga) (hn : x ≠ "__name__" := by decide) (hdb : (x == ("__debug__" : Str)) = false := by decide)
    (he : starEach (e :: es) X.env = (false, eval e X.env) :: starEach es X.env := by rfl) (hpl : (backTo pos (starEach es X.env)).any (·.1) = false := by rfl) :
    DE X E (.Call (.Name x p) (e :: es) [] pos) (eCall o ga) := by
  obtain ⟨r, hr, q⟩ := ho
  obtain ⟨t, a1, a2⟩ := ha
  exact ⟨_, pe_callTy hr hg hm hv a1 hn hdb he hpl, fun σ τ R H Q hs s h => a2 σ τ R H _ hs s (post_bind s h fun d v R1 H1 e1 q1 h1 => q v d R1 H1 Q _ q1 e1.sub h1)⟩
def lenD : List D → Res D
  | [.list ds] => .ok (.int ds.length)
  | [.tuple ds] => .ok (.int ds.length)
  | [.str z] => if z.length ≤ sizeLine then .ok (.int z.length) else .stuck
  | _ => .stuck
theorem one_inv {K : PySem.W.Frag} {R : Hp} {vs : List V} {d : D} (h : RpA K R vs [d]) : ∃ v, vs = [v] ∧ Rp K R v d := by
  cases h with
  | cons a b => cases b; exact ⟨_, rfl, a⟩
theorem two_inv {K : PySem.W.Frag} {R : Hp} {vs : List V} {d e : D} (h : RpA K R vs [d, e]) : ∃ v w, vs = [v, w] ∧ Rp K R v d ∧ Rp K R w e := by
  cases h with
  | cons a b =>
    obtain ⟨w, rfl, c⟩ := one_inv b
    exact ⟨_, _, rfl, a, c⟩
theorem cd_len : CallD X (.builtin "len") lenD := by
  refine ⟨_, CallR.or call_len_seq call_len_str, fun vs ds R H Q Ex r s h => ?_⟩
  match ds, r, h with
  | [.list ds], r, h =>
    obtain ⟨v, rfl, q⟩ := one_inv r
    cases q with
    | lst h1 q1 => exact .inl ⟨_, _, rfl, .inl (ls_same s h1).sq, by rw [q1.length]; exact Post.now s (Rp.int _) h⟩
  | [.tuple ds], r, h =>
    obtain ⟨v, rfl, q⟩ := one_inv r
    cases q with
    | tup h1 q1 => exact .inl ⟨_, _, rfl, .inr (SqT.of (s _ _ h1)), by rw [q1.length]; exact Post.now s (Rp.int _) h⟩
  | [.str z], r, h =>
    obtain ⟨v, rfl, q⟩ := one_inv r
    cases q
    simp only [lenD] at h
    by_cases hl : z.length ≤ sizeLine
    · rw [if_pos hl] at h; exact .inr ⟨z, rfl, hl, Post.now s (Rp.int _) h⟩
    · rw [if_neg hl] at h; exact h.elim
  | [.none], _, h => exact h.elim
  | [.bool _], _, h => exact h.elim
  | [.int _], _, h => exact h.elim
  | [.dict _], _, h => exact h.elim
  | [], _, h => exact h.elim
  | d1 :: _ :: _, _, h => cases d1 <;> exact h.elim
def tupleD : List D → Res D
  | [.list ds] => .ok (.tuple ds)
  | [.tuple ds] => .ok (.tuple ds)
  | _ => .stuck
theorem cd_tuple : CallD X (.type "tuple") tupleD := by
  refine ⟨_, call_tuple_of, fun vs ds R H Q Ex r s h => ?_⟩
  match ds, r, h with
  | [.list ds], r, h =>
    obtain ⟨v, rfl, q⟩ := one_inv r
    cases q with
    | lst h1 q1 => exact ⟨_, _, rfl, .inl ⟨(ls_same s h1).sq, fun l hl => new_tup q1 s hl h⟩⟩
  | [.tuple ds], r, h =>
    obtain ⟨v, rfl, q⟩ := one_inv r
    cases q with
    | tup h1 q1 => exact ⟨_, _, rfl, .inr ⟨SqT.of (s _ _ h1), Post.now s (Rp.tup h1 q1) h⟩⟩
  | [.none], _, h => exact h.elim
  | [.bool _], _, h => exact h.elim
  | [.int _], _, h => exact h.elim
  | [.str _], _, h => exact h.elim
  | [.dict _], _, h => exact h.elim
  | [], _, h => exact h.elim
  | d1 :: _ :: _, _, h => cases d1 <;> exact h.elim
def listD : List D → Res D
  | [.list ds] => .ok (.list ds)
  | [.tuple ds] => .ok (.list ds)
  | _ => .stuck
theorem cd_list : CallD X (.type "list") listD := by
  refine ⟨_, call_list_of, fun vs ds R H Q Ex r s h => ?_⟩
  match ds, r, h with
  | [.list ds], r, h =>
    obtain ⟨v, rfl, q⟩ := one_inv r
    cases q with
    | lst h1 q1 => exact ⟨_, _, rfl, .inl (ls_same s h1).sq, fun l hl => new_lst q1 s hl h⟩
  | [.tuple ds], r, h =>
    obtain ⟨v, rfl, q⟩ := one_inv r
    cases q with
    | tup h1 q1 => exact ⟨_, _, rfl, .inr (SqT.of (s _ _ h1)), fun l hl => new_lst q1 s hl h⟩
  | [.none], _, h => exact h.elim
  | [.bool _], _, h => exact h.elim
  | [.int _], _, h => exact h.elim
  | [.str _], _, h => exact h.elim
  | [.dict _], _, h => exact h.elim
  | [], _, h => exact h.elim
  | d1 :: _ :: _, _, h => cases d1 <;> exact h.elim
def intD : List D → Res D
  | [.int i] => .ok (.int i)
  | [.bool b] => .ok (.int (if b then 1 else 0))
  | _ => .stuck
theorem cd_int : CallD X (.type "int") intD := by
  refine ⟨_, call_int1, fun vs ds R H Q Ex r s h => ?_⟩
  match ds, r, h with
  | [.int i], r, h =>
    obtain ⟨v, rfl, q⟩ := one_inv r
    cases q
    exact .inl ⟨i, rfl, Post.now s (Rp.int _) h⟩
  | [.bool b], r, h =>
    obtain ⟨v, rfl, q⟩ := one_inv r
    cases q
    exact .inr ⟨b, rfl, Post.now s (Rp.int _) h⟩
  | [.none], _, h => exact h.elim
  | [.list _], _, h => exact h.elim
  | [.tuple _], _, h => exact h.elim
  | [.str _], _, h => exact h.elim
  | [.dict _], _, h => exact h.elim
  | [], _, h => exact h.elim
  | d1 :: _ :: _, _, h => cases d1 <;> exact h.elim
def pairI (o : Int → Int → Res D) : List D → Res D
  | [.int i, .int j] => o i j
  | _ => .stuck
theorem pairI_inv {o : Int → Int → Res D} {vs : List V} {ds : List D} {R H : Hp} {Q : VK} {Ex : XK} {K : PySem.W.Frag} {mg : Str → Option Value} (r : RpA K R vs ds) (h : Post K mg Ex (rV K) R H Q (pairI o ds)) :
    ∃ i j, vs = [.int i, .int j] ∧ Post K mg Ex (rV K) R H Q (o i j) := by
  match ds, r, h with
  | [.int i, .int j], r, h =>
    obtain ⟨v, w, rfl, q1, q2⟩ := two_inv r
    cases q1
    cases q2
    exact ⟨i, j, rfl, h⟩
  | [], _, h => exact h.elim
  | [d1], _, h => cases d1 <;> exact h.elim
  | d1 :: d2 :: _ :: _, _, h => cases d1 <;> first | exact h.elim | (cases d2 <;> exact h.elim)
  | [.none, _], _, h => exact h.elim
  | [.bool _, _], _, h => exact h.elim
  | [.str _, _], _, h => exact h.elim
  | [.list _, _], _, h => exact h.elim
  | [.tuple _, _], _, h => exact h.elim
  | [.dict _, _], _, h => exact h.elim
  | [.int _, .none], _, h => exact h.elim
  | [.int _, .bool _], _, h => exact h.elim
  | [.int _, .str _], _, h => exact h.elim
  | [.int _, .list _], _, h => exact h.elim
  | [.int _, .tuple _], _, h => exact h.elim
  | [.int _, .dict _], _, h => exact h.elim
def divmodD : List D → Res D := pairI fun i j => if 0 < j ∧ j.natAbs.log2 < 9000 then .ok (.tuple [.int (i / j), .int (i % j)]) else .stuck
theorem cd_divmod : CallD X (.builtin "divmod") divmodD := by
  refine ⟨_, call_divmodW, fun vs ds R H Q Ex r s h => ?_⟩
  obtain ⟨i, j, rfl, h'⟩ := pairI_inv r h
  by_cases hl : 0 < j ∧ j.natAbs.log2 < 9000
  · rw [if_pos hl] at h'
    exact ⟨i, j, rfl, ⟨hl.1, PyProof.noPylong_of_log2 hl.2⟩, fun p hp => new_tup (.cons (.int _) (.cons (.int _) .nil)) s hp h'⟩
  · rw [if_neg hl] at h'; exact h'.elim
def min2D : List D → Res D := pairI fun i j => .ok (.int (if j < i then j else i))
def max2D : List D → Res D := pairI fun i j => .ok (.int (if j > i then j else i))
theorem cd_min2 (hc : X.calm = true) : CallD X (.builtin "min") min2D := by
  refine ⟨_, call_min2 hc, fun vs ds R H Q Ex r s h => ?_⟩
  obtain ⟨i, j, rfl, h'⟩ := pairI_inv r h
  exact ⟨i, j, rfl, Post.now s (Rp.int _) h'⟩
theorem cd_max2 (hc : X.calm = true) : CallD X (.builtin "max") max2D := by
  refine ⟨_, call_max2 hc, fun vs ds R H Q Ex r s h => ?_⟩
  obtain ⟨i, j, rfl, h'⟩ := pairI_inv r h
  exact ⟨i, j, rfl, Post.now s (Rp.int _) h'⟩
end
end E3

namespace E3
open PySem PySem.Spec PyProof.Rows L2

def PostN (K : PySem.W.Frag) (mg : Str → Option Value) (Ex : XK) (R H : Hp) (Q : VK) : Res D → Prop
  | .ok d => ∀ a R' H', Ext R H R' H' → R' a = none → H a = none → Own K R' H' a d → Q (.ref a) H'
  | .exc x => ∀ c dx H', Same H H' → ExL K mg H x c dx H' → Ex c dx H'
  | .stuck => False
structure DN (X : Cx) (E : WX) (e : Expr) (f : DS → Res D) : Prop where
  run : ∃ t : TE, PE X e t ∧ ∀ (σ : DS) (τ : L2.St) (R H : Hp) (Q : VK), RS X.K R σ τ → Same R H → PostN X.K X.mg (xat E τ) R H Q (f σ) → t τ H Q
theorem PostN.step {K : PySem.W.Frag} {mg : Str → Option Value} {Ex : XK} {R H R1 H1 : Hp} {Q : VK} {r : Res D} (e : Ext R H R1 H1) (h : PostN K mg Ex R H Q r) : PostN K mg Ex R1 H1 Q r := by
  cases r with
  | ok d =>
    refine fun a R' H' x n1 n2 q => h a R' H' (e.trans x) n1 ?_ q
    exact e.hh.free n2
  | exc x => exact fun c dx H' s q => h c dx H' (e.hh.trans s) (q.back e.hh)
  | stuck => exact h
section
variable {X : Cx} {E : WX} {e : Expr} {f : DS → Res D} {pos : Pos}
theorem Post.toN {K : PySem.W.Frag} {mg : Str → Option Value} {Ex : XK} {R H : Hp} {Q : VK} {r : Res D} (h : Post K mg Ex (rV K) R H Q r) : PostN K mg Ex R H Q r := by
  cases r with
  | ok d =>
    intro a R' H' x n1 n2 q
    obtain ⟨o, z1, z2, z3⟩ := q.some
    have rr : Same R' (upd R' a o) := same_new n1
    refine h (.ref a) (upd R' a o) H' ⟨x.rr.trans rr, fun b y w => ?_, x.hh, fun b y w => ?_⟩ ?_
    · by_cases hb : b = a
      · subst hb; rw [upd_same] at w; rw [z1]; exact w
      · rw [upd_ne hb] at w; exact x.sub _ _ w
    · by_cases hb : b = a
      · subst hb; exact .inr (.inl n2)
      · rw [upd_ne hb] at w; exact x.new _ _ w
    · cases d with
      | list ds =>
        obtain ⟨vs, w1, w2⟩ := q
        rw [z1] at w1; cases w1
        exact .lst (.inl (.inl upd_same)) (w2.mono rr)
      | dict ks =>
        obtain ⟨vs, w1, w2⟩ := q
        rw [z1] at w1; cases w1
        exact .dT (.inl upd_same) (w2.mono rr)
      | _ => exact q.elim
  | exc x => exact h
  | stuck => exact h
theorem DN.de (h : DN X E e f) : DE X E e f := by
  obtain ⟨t, h1, h2⟩ := h
  exact ⟨t, h1, fun σ τ R H Q hs s q => h2 σ τ R H Q hs s q.toN⟩
theorem post_bindN {α β : Type} {Ex : XK} {rel : Hp → β → α → Prop} {R H : Hp} {Q : VK} {r : Res α} {g : α → Res D} {T : β → Hp → Prop} (h : PostN X.K X.mg Ex R H Q (r.bind g))
    (k : ∀ d v R' H', Ext R H R' H' → rel R' v d → PostN X.K X.mg Ex R' H' Q (g d) → T v H') : Post X.K X.mg Ex rel R H T r := by
  cases r with
  | ok d => exact fun v R' H' e q => k d v R' H' e q (h.step e)
  | exc x => exact h
  | stuck => exact h
theorem new_own {xs : List V} {ds : List D} {R H : Hp} {Q : VK} {p : Addr} {Ex : XK} {K : PySem.W.Frag} {mg : Str → Option Value} (q : RpA K R xs ds) (s : Same R H) (hp : H p = none) (h : PostN K mg Ex R H Q (.ok (.list ds))) : Q (.ref p) (upd H p (.lst xs)) :=
  h p R _ (Ext.allocH s hp) (s.free hp) hp ⟨xs, upd_same, q⟩
variable {es : List Expr} {ga : DS → Res (List D)}
theorem dn_lst (h : DA X E es ga) : DN X E (.List es pos) (eLst ga) := by
  obtain ⟨t, h1, h2⟩ := h
  refine ⟨_, pe_lst h1, fun σ τ R H Q hs s h => h2 σ τ R H _ hs s (post_bindN h fun xs vs R1 H1 e1 q1 k => ?_)⟩
  unfold lstD at k
  by_cases hl : xs.length ≤ sizeLine
  · rw [if_pos hl] at k
    exact ⟨by rw [q1.length]; exact hl, fun p hp => new_own q1 e1.sub hp k⟩
  · rw [if_neg hl] at k; exact k.elim
theorem dn_dict : DN X E (.Dict [] [] pos) (eC (.dict [])) :=
  ⟨_, pe_dnewT, fun σ τ R H Q hs s h p hp => h p R _ (Ext.allocH s hp) (s.free hp) hp ⟨[], upd_same, .nil⟩⟩
def CallN (X : Cx) (fn : Value) (o : List D → Res D) : Prop :=
  ∃ r : List V → Hp → VK → Prop, CallR X fn r ∧ ∀ (vs : List V) (ds : List D) (R H : Hp) (Q : VK) (Ex : XK), RpA X.K R vs ds → Same R H → PostN X.K X.mg Ex R H Q (o ds) → r vs H Q
theorem CallN.cd {fn : Value} {o : List D → Res D} (h : CallN X fn o) : CallD X fn o := by
  obtain ⟨r, h1, h2⟩ := h
  exact ⟨r, h1, fun vs ds R H Q Ex a s q => h2 vs ds R H Q Ex a s q.toN⟩
variable {x : Str} {id T : String} {p : Pos}
theorem dn_callB {o : List D → Res D} (ho : CallN X (.builtin id) o) (hg : Gl X x) (hm : X.mg x = none) (hv : bootBuiltins x = some (.builtin id)) (ha : DA X E (e :: es) ga) (hn : x ≠ "__name__" := by decide) (hdb : (x == ("__debug__" : Str)) = false := by decide)
    (he : starEach (e :: es) X.env = (false, eval e X.env) :: starEach es X.env := by rfl) (hpl : (backTo pos (starEach es X.env)).any (·.1) = false := by rfl) :
    DN X E (.Call (.Name x p) (e :: es) [] pos) (eCall o ga) := by
  obtain ⟨r, hr, q⟩ := ho
  obtain ⟨t, a1, a2⟩ := ha
  exact ⟨_, pe_callB hr hg hm hv a1 hn hdb he hpl, fun σ τ R H Q hs s h => a2 σ τ R H _ hs s (post_bindN h fun d v R1 H1 e1 q1 h1 => q v d R1 H1 Q _ q1 e1.sub h1)⟩
theorem dn_callTy {o : List D → Res D} (ho : CallN X (.type T) o) (hg : Gl X x) (hm : X.mg x = none) (hv : bootBuiltins x = some (.type T)) (ha : DA X E (e :: es) ga) (hn : x ≠ "__name__" := by decide) (hdb : (x == ("__debug__" : Str)) = false := by decide)
    (he : starEach (e :: es) X.env = (false, eval e X.env) :: starEach es X.env := by rfl) (hpl : (backTo pos (starEach es X.env)).any (·.1) = false := by rfl) :
    DN X E (.Call (.Name x p) (e :: es) [] pos) (eCall o ga) := by
  obtain ⟨r, hr, q⟩ := ho
  obtain ⟨t, a1, a2⟩ := ha
  exact ⟨_, pe_callTy hr hg hm hv a1 hn hdb he hpl, fun σ τ R H Q hs s h => a2 σ τ R H _ hs s (post_bindN h fun d v R1 H1 e1 q1 h1 => q v d R1 H1 Q _ q1 e1.sub h1)⟩
theorem cn_list : CallN X (.type "list") listD := by
  refine ⟨_, call_list_of, fun vs ds R H Q Ex r s h => ?_⟩
  match ds, r, h with
  | [.list ds], r, h =>
    obtain ⟨v, rfl, q⟩ := one_inv r
    cases q with
    | lst h1 q1 => exact ⟨_, _, rfl, .inl (ls_same s h1).sq, fun l hl => new_own q1 s hl h⟩
  | [.tuple ds], r, h =>
    obtain ⟨v, rfl, q⟩ := one_inv r
    cases q with
    | tup h1 q1 => exact ⟨_, _, rfl, .inr (SqT.of (s _ _ h1)), fun l hl => new_own q1 s hl h⟩
  | [.none], _, h => exact h.elim
  | [.bool _], _, h => exact h.elim
  | [.int _], _, h => exact h.elim
  | [.str _], _, h => exact h.elim
  | [.dict _], _, h => exact h.elim
  | [], _, h => exact h.elim
  | d1 :: _ :: _, _, h => cases d1 <;> exact h.elim

variable {R0 H0 R H : Hp} {σ : SS} {τ : L2.St} {Dn : Ends} {pos' : Pos}
def sNew (i : Nat) (f : DS → Res D) : SF := fun σ => thenR (f (mask σ)) σ fun d => .ok .nx (σ.set i (some (.ow d)))
def flatC : D → Bool
  | .list ds => flatA ds
  | _ => false
def sNewV (i : Nat) (f : DS → Res D) : SF := fun σ => thenR (f (view σ)) σ fun d => if flatC d then .ok .nx (σ.set i (some (.ow d))) else .stuck
theorem RO.notOwned (I : RO X.K R0 H0 R H σ τ) {a : Addr} (h : H a = none) : ¬ owned σ τ a := fun z => by
  obtain ⟨d, q⟩ := (I.ownd z).2.2
  obtain ⟨o, z1, _⟩ := q.some
  rw [h] at z1; cases z1
theorem ds_new (i : Nat) (hN : X.N.Nodup) (hi : X.N[i]? = some x) (hx : Loc X.env.scope x) (he : DN X E e f) (hs : swapsWith e (some (.Name x pos')) pos.line X.env = pure false := by rfl) (hf : X.fn x = true ∨ X.env.scope.names.lookup x = some .local := by first | exact .inl rfl | exact .inr rfl | assumption) :
    DS1 X E (.Assign [.Name x pos'] e pos) (sNew i f) := by
  obtain ⟨t, e1, e2⟩ := he
  refine ⟨_, ps_set hN hi hx e1 hs hf, fun R0 H0 σ τ R H Dn I q => e2 (mask σ) τ R H _ I.mask I.ext.sub ?_⟩
  unfold sNew at q
  cases z : f (mask σ) with
  | ok d =>
    rw [z] at q
    refine fun a R' H' x n1 n2 w => q R' H' _ ((I.step x).putO n1 (I.ext.hh.free n2) w ?_)
    exact RO.notOwned I n2
  | exc x => rw [z] at q; exact fun c dx H' s y => q c dx R H' τ (I.same s) (y.back I.ext.hh)
  | stuck => rw [z] at q; exact q
theorem ds_newV (i : Nat) (hN : X.N.Nodup) (hi : X.N[i]? = some x) (hx : Loc X.env.scope x) (he : DN X E e f) (hs : swapsWith e (some (.Name x pos')) pos.line X.env = pure false := by rfl) (hf : X.fn x = true ∨ X.env.scope.names.lookup x = some .local := by first | exact .inl rfl | exact .inr rfl | assumption) :
    DS1 X E (.Assign [.Name x pos'] e pos) (sNewV i f) := by
  obtain ⟨t, e1, e2⟩ := he
  refine ⟨_, ps_set hN hi hx e1 hs hf, fun R0 H0 σ τ R H Dn I q => e2 (view σ) τ (full σ τ R H) H _ I.viewed I.fullH ?_⟩
  unfold sNewV at q
  cases z : f (view σ) with
  | ok d =>
    rw [z] at q
    have q' : SPost X E R0 H0 Dn (if flatC d then .ok .nx (σ.set i (some (.ow d))) else .stuck) := q
    by_cases hf : flatC d = true
    · rw [if_pos hf] at q'
      refine fun a R' H' x n1 n2 w => ?_
      obtain ⟨J, tu⟩ := I.stepF x
      have na : ¬ owned σ τ a := RO.notOwned I n2
      refine q' _ H' _ (J.putO (by rw [hide_n na]; exact n1) (I.ext.hh.free n2) ?_ na)
      cases d with
      | list ds =>
        obtain ⟨vs, w1, w2⟩ := w
        exact ⟨vs, w1, RpA.flat tu w2 hf⟩
      | _ => cases hf
    · rw [if_neg hf] at q'; exact q'.elim
  | exc x => rw [z] at q; exact fun c dx H' s y => q c dx R H' τ (I.same s) (y.back I.ext.hh)
  | stuck => rw [z] at q; exact q

abbrev MF := List D → List D → Option (D × List D)
def MtD (X : Cx) (id : String) (m : MF) : Prop :=
  ∃ r : V → List V → Hp → VK → Prop, MtM X id r ∧ ∀ (a : Addr) (xs : List V) (c : List D) (vs : List V) (ds : List D) (d : D) (c' : List D) (R H : Hp) (Q : VK), H a = some (.lst xs) → R a = none → RpA X.K R xs c → RpA X.K R vs ds → Same R H → m c ds = some (d, c') →
    (∀ v ys, RpA X.K R ys c' → Rp X.K R v d → Q v (upd H a (.lst ys))) → r (.ref a) vs H Q
def mutK (i : Nat) (σ : SS) (r : Option (D × List D)) (k : D → SS → SR) : SR := match r with
  | some (d, c') => k d (σ.set i (some (.ow (.list c'))))
  | none => .stuck
def ownL (i : Nat) (σ : SS) (k : List D → SR) : SR := match σ[i]? with
  | some (some (.ow (.list c))) => k c
  | _ => .stuck
def sMut (i : Nat) (m : MF) (g : DS → Res (List D)) : SF := fun σ => ownL i σ fun c => thenR (g (mask σ)) σ fun ds => mutK i σ (m c ds) fun _ σ' => .ok .nx σ'
def sMutV (i : Nat) (m : MF) (g : DS → Res (List D)) : SF := fun σ => ownL i σ fun c => thenR (g (view σ)) σ fun ds => if flatA ds then mutK i σ (m c ds) fun _ σ' => .ok .nx σ' else .stuck
def sMut0 (i : Nat) (m : MF) : SF := fun σ => ownL i σ fun c => mutK i σ (m c []) fun _ σ' => .ok .nx σ'
def sMutS0 (j i : Nat) (m : MF) : SF := fun σ => ownL i σ fun c => mutK i σ (m c []) fun d σ' => .ok .nx (σ'.set j (some (.sh d)))
def sMutS (j i : Nat) (m : MF) (g : DS → Res (List D)) : SF := fun σ => ownL i σ fun c => thenR (g (mask σ)) σ fun ds => mutK i σ (m c ds) fun d σ' => .ok .nx (σ'.set j (some (.sh d)))
theorem ownL_run {i : Nat} {k : List D → SR} (I : RO X.K R0 H0 R H σ τ) (q : SPost X E R0 H0 Dn (ownL i σ k)) : ∃ a xs c, σ[i]? = some (some (.ow (.list c))) ∧ τ[i]? = some (some (.ref a)) ∧ H a = some (.lst xs) ∧ R a = none ∧ RpA X.K R xs c ∧ SPost X E R0 H0 Dn (k c) := by
  unfold ownL at q
  split at q
  · rename_i c hc
    obtain ⟨a, h1, h2, h3, xs, h4, h5⟩ := I.ow i _ hc
    exact ⟨a, xs, c, hc, h1, h4, h2, h5, q⟩
  · exact q.elim
theorem mutK_run {i : Nat} {m : MF} {k : D → SS → SR} {id : String} {a : Addr} {vs : List V} {c ds : List D} {T : VK} {r : V → List V → Hp → VK → Prop}
    (hm : ∀ (a : Addr) (xs : List V) (c : List D) (vs : List V) (ds : List D) (d : D) (c' : List D) (R H : Hp) (Q : VK), H a = some (.lst xs) → R a = none → RpA X.K R xs c → RpA X.K R vs ds → Same R H → m c ds = some (d, c') →
      (∀ v ys, RpA X.K R ys c' → Rp X.K R v d → Q v (upd H a (.lst ys))) → r (.ref a) vs H Q)
    (I : RO X.K R0 H0 R H σ τ) (h1 : σ[i]? = some (some (.ow (.list c)))) (h2 : τ[i]? = some (some (.ref a))) (ra : RpA X.K R vs ds) (q : SPost X E R0 H0 Dn (mutK i σ (m c ds) k))
    (z : ∀ d v σ' H', RO X.K R0 H0 R H' σ' τ → Rp X.K R v d → SPost X E R0 H0 Dn (k d σ') → T v H') : r (.ref a) vs H T := by
  obtain ⟨b, q1, q2, q3, xs, q4, q5⟩ := I.ow i _ h1
  rw [h2] at q1; cases q1
  unfold mutK at q
  split at q
  · rename_i d c' hmc
    exact hm a xs c vs ds d c' R H T q4 q2 q5 ra I.ext.sub hmc fun v ys w1 w2 => z d v _ _ (I.mut (d := .list c') h1 h2 ⟨ys, upd_same, w1⟩) w2 q
  · exact q.elim
theorem tyL {H : Hp} {a : Addr} {xs : List V} (h : H a = some (.lst xs)) : tyV X.K "list" (.ref a) H := .inl ⟨rfl, _, SqL.of h⟩
variable {name : Str} {apos np : Pos} {m : MF} {i j : Nat} {y : Str} {py : Pos}
abbrev PeM (X : Cx) (o : Expr) (name : Str) (id : String) (apos : Pos) (es : List Expr) (pos : Pos) : Prop :=
  ∀ {r : V → List V → Hp → VK → Prop} {to : TE} {t : TA}, MtM X id r → PE X o to → PA X es t → PE X (.Call (.Attribute o name apos) es [] pos) (tBM X.K "list" r to t)
abbrev PeM0 (X : Cx) (o : Expr) (name : Str) (id : String) (apos : Pos) (pos : Pos) : Prop :=
  ∀ {r : V → List V → Hp → VK → Prop} {to : TE}, MtM X id r → PE X o to → PE X (.Call (.Attribute o name apos) [] [] pos) (tBM0 X.K "list" r to)
abbrev IsV (X : Cx) (i : Nat) (x : Str) (np : Pos) : Prop := PE X (.Name x np) (tVar i)
theorem isv (i : Nat) (hN : X.N[i]? = some x := by rfl) (hv : Vis X.env.scope x := by first | exact Or.inl rfl | exact Or.inr (Or.inl rfl) | exact Or.inr (Or.inr rfl)) (hd : (x == ("__debug__" : Str)) = false := by decide)
    (hcd : (x == ("__classdict__" : Str)) = false := by decide) : IsV X i x np := pe_var hN hv hd hcd
theorem ds_mut (i : Nat) (hv : IsV X i x np) (hm : MtD X id m) (hpe : PeM X (.Name x np) name id apos (e :: es) pos) (ha : DA X E (e :: es) ga)
    (hs : swapsWith (.Call (.Attribute (.Name x np) name apos) (e :: es) [] pos) none pos'.line X.env = pure false := by rfl) : DS1 X E (.Expr (.Call (.Attribute (.Name x np) name apos) (e :: es) [] pos) pos') (sMut i m ga) := by
  obtain ⟨r, m1, m2⟩ := hm
  obtain ⟨t, a1, a2⟩ := ha
  refine ⟨_, ps_expr (hpe m1 hv a1) hs, fun R0 H0 σ τ R H Dn I q => ?_⟩
  obtain ⟨a, xs, c, h1, h2, h3, h4, h5, q⟩ := ownL_run I q
  refine ⟨_, h2, tyL h3, a2 (mask σ) τ R H _ I.mask I.ext.sub (post_mask I q fun ds vs R' H' J y z => ?_)⟩
  exact mutK_run (id := id) m2 J h1 h2 y z fun d v σ' H2 J2 w1 w2 => w2 R' H2 τ J2
theorem ds_mutV (i : Nat) (hv : IsV X i x np) (hm : MtD X id m) (hpe : PeM X (.Name x np) name id apos (e :: es) pos) (ha : DA X E (e :: es) ga)
    (hs : swapsWith (.Call (.Attribute (.Name x np) name apos) (e :: es) [] pos) none pos'.line X.env = pure false := by rfl) : DS1 X E (.Expr (.Call (.Attribute (.Name x np) name apos) (e :: es) [] pos) pos') (sMutV i m ga) := by
  obtain ⟨r, m1, m2⟩ := hm
  obtain ⟨t, a1, a2⟩ := ha
  refine ⟨_, ps_expr (hpe m1 hv a1) hs, fun R0 H0 σ τ R H Dn I q => ?_⟩
  obtain ⟨a, xs, c, h1, h2, h3, h4, h5, q⟩ := ownL_run I q
  refine ⟨_, h2, tyL h3, a2 (view σ) τ (full σ τ R H) H _ I.viewed I.fullH (post_viewA I q fun ds vs R' H' J y z => ?_)⟩
  exact mutK_run (id := id) m2 J h1 h2 y z fun d v σ' H2 J2 w1 w2 => w2 R' H2 τ J2
theorem ds_mut0 (i : Nat) (hv : IsV X i x np) (hm : MtD X id m) (hpe : PeM0 X (.Name x np) name id apos pos)
    (hs : swapsWith (.Call (.Attribute (.Name x np) name apos) [] [] pos) none pos'.line X.env = pure false := by rfl) : DS1 X E (.Expr (.Call (.Attribute (.Name x np) name apos) [] [] pos) pos') (sMut0 i m) := by
  obtain ⟨r, m1, m2⟩ := hm
  refine ⟨_, ps_expr (hpe m1 hv) hs, fun R0 H0 σ τ R H Dn I q => ?_⟩
  obtain ⟨a, xs, c, h1, h2, h3, h4, h5, q⟩ := ownL_run I q
  exact ⟨_, h2, tyL h3, mutK_run (id := id) m2 I h1 h2 .nil q fun d v σ' H2 J2 w1 w2 => w2 R H2 τ J2⟩
theorem ds_mutS0 (j i : Nat) (hN : X.N.Nodup) (hj : X.N[j]? = some y) (hy : Loc X.env.scope y) (hv : IsV X i x np) (hm : MtD X id m) (hpe : PeM0 X (.Name x np) name id apos pos)
    (hs : swapsWith (.Call (.Attribute (.Name x np) name apos) [] [] pos) (some (.Name y py)) pos'.line X.env = pure false := by rfl) (hf : X.fn y = true ∨ X.env.scope.names.lookup y = some .local := by first | exact .inl rfl | exact .inr rfl | assumption) :
    DS1 X E (.Assign [.Name y py] (.Call (.Attribute (.Name x np) name apos) [] [] pos) pos') (sMutS0 j i m) := by
  obtain ⟨r, m1, m2⟩ := hm
  refine ⟨_, ps_set hN hj hy (hpe m1 hv) hs hf, fun R0 H0 σ τ R H Dn I q => ?_⟩
  obtain ⟨a, xs, c, h1, h2, h3, h4, h5, q⟩ := ownL_run I q
  exact ⟨_, h2, tyL h3, mutK_run (id := id) m2 I h1 h2 .nil q fun d v σ' H2 J2 w1 w2 => w2 R H2 _ (J2.put w1)⟩
theorem ds_mutS (j i : Nat) (hN : X.N.Nodup) (hj : X.N[j]? = some y) (hy : Loc X.env.scope y) (hv : IsV X i x np) (hm : MtD X id m) (hpe : PeM X (.Name x np) name id apos (e :: es) pos) (ha : DA X E (e :: es) ga)
    (hs : swapsWith (.Call (.Attribute (.Name x np) name apos) (e :: es) [] pos) (some (.Name y py)) pos'.line X.env = pure false := by rfl) (hf : X.fn y = true ∨ X.env.scope.names.lookup y = some .local := by first | exact .inl rfl | exact .inr rfl | assumption) :
    DS1 X E (.Assign [.Name y py] (.Call (.Attribute (.Name x np) name apos) (e :: es) [] pos) pos') (sMutS j i m ga) := by
  obtain ⟨r, m1, m2⟩ := hm
  obtain ⟨t, a1, a2⟩ := ha
  refine ⟨_, ps_set hN hj hy (hpe m1 hv a1) hs hf, fun R0 H0 σ τ R H Dn I q => ?_⟩
  obtain ⟨a, xs, c, h1, h2, h3, h4, h5, q⟩ := ownL_run I q
  refine ⟨_, h2, tyL h3, a2 (mask σ) τ R H _ I.mask I.ext.sub (post_mask I q fun ds vs R' H' J y z => ?_)⟩
  exact mutK_run (id := id) m2 J h1 h2 y z fun d v σ' H2 J2 w1 w2 => w2 R' H2 _ (J2.put w1)
def appendM : MF := fun c ds => match ds with
  | [d] => if c.length < sizeLine then some (.none, c ++ [d]) else none
  | _ => none
theorem md_append : MtD X "list.append" appendM := by
  refine ⟨_, mt_append, fun a xs c vs ds d c' R H Q hH hR hx hv s hm q => ?_⟩
  match ds, hv, hm with
  | [d1], hv, hm =>
    obtain ⟨v, rfl, r⟩ := one_inv hv
    simp only [appendM] at hm
    by_cases hl : c.length < sizeLine
    · rw [if_pos hl] at hm
      cases hm
      exact ⟨a, xs, v, rfl, rfl, hH, by rw [hx.length]; exact hl, q _ _ (hx.append (.cons r .nil)) Rp.non⟩
    · rw [if_neg hl] at hm; cases hm
  | [], _, hm => cases hm
  | d1 :: _ :: _, _, hm => cases d1 <;> cases hm
def rExtG (K : PySem.W.Frag) : V → List V → Hp → VK → Prop := fun x vs H Q => ∃ l b xs zs, x = .ref l ∧ vs = [.ref b] ∧ H l = some (.lst xs) ∧ LsQ K H b zs ∧ xs.length + zs.length ≤ sizeLine ∧ Q .non (upd H l (.lst (xs ++ zs)))
theorem mt_extG : MtM X "list.extend" (rExtG X.K) := fun pins s σ H x vs v us Q I rx rv h => by
  obtain ⟨l, b, xs, zs, rfl, rfl, hH, hB, hz, q⟩ := h
  cases rx
  obtain ⟨u, rfl, ru⟩ := rv.one
  cases ru
  obtain ⟨z, i1, n, r, hl, e⟩ := I.lstM hH
  obtain ⟨z2, i2, n2, r2, e2⟩ := hB.at I
  have hl2 := r2.length
  have sz : i1.toArray.size + i2.toArray.size ≤ sizeLine := by rw [List.size_toArray, List.size_toArray]; omega
  have nl : ¬ (!i1.toArray.isEmpty && Builtin.List.listTooLong (i1.toArray.size + i2.toArray.size)) = true := by
    rw [notLongL sz, Bool.and_false]; exact Bool.false_ne_true
  refine call_meets PySem.F.slot_list_extend ⟨_, e, rfl⟩ PySem.F.entry_list_extend (PySem.F.args_list_extend_2 _ _)
    (AutoSeq1.list_extend_list_list_0 l i1.toArray n b i2.toArray n2 nl (by rw [List.size_toArray]; omega) (by omega)) ⟨e, e2, ?_⟩
  refine ⟨.non, _, I.lset (its' := i1 ++ i2) hH e (by simp) (r.append r2) ?_, rfl, q⟩
  rw [List.length_append]; omega
def extendM : MF := fun c ds => match ds with
  | [.list es] => if c.length + es.length ≤ sizeLine then some (.none, c ++ es) else none
  | _ => none
theorem md_extend : MtD X "list.extend" extendM := by
  refine ⟨_, mt_extG, fun a xs c vs ds d c' R H Q hH hR hx hv s hm q => ?_⟩
  match ds, hv, hm with
  | [.list es], hv, hm =>
    obtain ⟨v, rfl, r⟩ := one_inv hv
    simp only [extendM] at hm
    by_cases hl : c.length + es.length ≤ sizeLine
    · rw [if_pos hl] at hm
      cases hm
      cases r with
      | lst g1 g2 => exact ⟨a, _, xs, _, rfl, rfl, hH, ls_same s g1, by rw [hx.length, g2.length]; exact hl, q _ _ (hx.append g2) Rp.non⟩
    · rw [if_neg hl] at hm; cases hm
  | [.none], _, hm => cases hm
  | [.bool _], _, hm => cases hm
  | [.int _], _, hm => cases hm
  | [.str _], _, hm => cases hm
  | [.tuple _], _, hm => cases hm
  | [.dict _], _, hm => cases hm
  | [], _, hm => cases hm
  | d1 :: _ :: _, _, hm => cases d1 <;> cases hm
def popM : MF := fun c ds => match ds with
  | [] => match c[c.length - 1]? with
    | some d => some (d, c.dropLast)
    | none => none
  | _ => none
theorem md_pop : MtD X "list.pop" popM := by
  refine ⟨_, mt_pop, fun a xs c vs ds d c' R H Q hH hR hx hv s hm q => ?_⟩
  match ds, hv, hm with
  | [], hv, hm =>
    cases hv
    simp only [popM] at hm
    split at hm
    · rename_i d' hd
      cases hm
      obtain ⟨v, z1, z2⟩ := hx.get hd
      exact ⟨a, xs, v, rfl, rfl, hH, by rw [hx.length]; exact z1, q _ _ hx.dropLast z2⟩
    · cases hm
  | _ :: _, _, hm => cases hm
def clearM : MF := fun _ ds => match ds with
  | [] => some (.none, [])
  | _ => none
theorem md_clear : MtD X "list.clear" clearM := by
  refine ⟨_, mt_clear, fun a xs c vs ds d c' R H Q hH hR hx hv s hm q => ?_⟩
  match ds, hv, hm with
  | [], hv, hm =>
    cases hv
    cases hm
    exact ⟨a, xs, rfl, rfl, hH, q _ _ .nil Rp.non⟩
  | _ :: _, _, hm => cases hm
end
end E3

namespace E3
open PySem PySem.Spec PyProof.Rows L2

def intsOf : List D → Option (List Int)
  | [] => some []
  | .int i :: r => (intsOf r).map (i :: ·)
  | _ :: _ => none
def keyOf : D → Option (List Int)
  | .tuple xs => intsOf xs
  | _ => none
theorem intsOf_map : ∀ ns : List Int, intsOf (ns.map .int) = some ns
  | [] => rfl
  | n :: r => by
    show (intsOf (r.map .int)).map (n :: ·) = _
    rw [intsOf_map r]; rfl
theorem keyOf_t (ns : List Int) : keyOf (.tuple (ns.map .int)) = some ns := intsOf_map ns
theorem intsOf_inv : ∀ {xs : List D} {ns : List Int}, intsOf xs = some ns → xs = ns.map .int
  | [], _, h => by cases h; rfl
  | .int i :: r, ns, h => by
    have h' : (intsOf r).map (i :: ·) = some ns := h
    cases q : intsOf r with
    | none => rw [q] at h'; cases h'
    | some ms =>
      rw [q] at h'
      cases h'
      rw [intsOf_inv q]; rfl
  | .none :: _, _, h => by cases h
  | .bool _ :: _, _, h => by cases h
  | .str _ :: _, _, h => by cases h
  | .list _ :: _, _, h => by cases h
  | .tuple _ :: _, _, h => by cases h
  | .dict _ :: _, _, h => by cases h
theorem keyOf_inv {d : D} {ns : List Int} (h : keyOf d = some ns) : d = .tuple (ns.map .int) := by
  cases d with
  | tuple xs =>
    have : intsOf xs = some ns := h
    rw [intsOf_inv this]
  | _ => cases h
theorem key_inj {a b : List Int} : (a.map (Sum.inl : Int → Key) = b.map Sum.inl) ↔ a = b := by
  constructor
  · intro h
    induction a generalizing b with
    | nil => cases b with
      | nil => rfl
      | cons _ _ => cases h
    | cons x r ih => cases b with
      | nil => cases h
      | cons y s =>
        rw [List.map_cons, List.map_cons] at h
        injection h with h1 h2
        injection h1 with h1
        rw [h1, ih h2]
  · intro h; rw [h]
def valK (kvs : List (D × D)) (k : List Int) : Option D := (kvs.find? fun p => decide (keyOf p.1 = some k)).map (·.2)
def putKD (kvs : List (D × D)) (k : List Int) (v : D) : List (D × D) :=
  if (kvs.any fun p => decide (keyOf p.1 = some k)) = true then kvs.map (fun p => if keyOf p.1 = some k then (p.1, v) else p) else kvs ++ [(.tuple (k.map .int), v)]
section
variable {K : PySem.W.Frag} {R : Hp}
theorem RpK.any (k : List Int) : ∀ {ks : List (List Key × V)} {kvs : List (D × D)}, RpK K R ks kvs → (ks.any fun kv => decide (kv.1 = k.map Sum.inl)) = kvs.any fun p => decide (keyOf p.1 = some k)
  | _, _, .nil => rfl
  | _, _, .cons (k := j) h r => by
    rw [List.any_cons, List.any_cons, RpK.any k r]
    congr 1
    rw [keyOf_t]
    by_cases e : j = k
    · subst e; simp
    · rw [decide_eq_false (fun z => e (key_inj.mp z)), decide_eq_false (fun z => e (Option.some.inj z))]
theorem RpK.val (k : List Int) : ∀ {ks : List (List Key × V)} {kvs : List (D × D)}, RpK K R ks kvs → (∀ d, valK kvs k = some d → ∃ v, valV ks (k.map Sum.inl) = some v ∧ Rp K R v d) ∧ (valK kvs k = none → valV ks (k.map Sum.inl) = none)
  | _, _, .nil => ⟨fun _ h => (by cases h), fun _ => rfl⟩
  | _, _, .cons (k := j) (v := v) (d := d0) (kvs := ks) (ds := ds) h r => by
    have ih := RpK.val k r
    by_cases e : j = k
    · subst e
      have e1 : valK ((.tuple (j.map .int), d0) :: ds) j = some d0 := by simp [valK, List.find?_cons, keyOf_t]
      rw [e1]
      refine ⟨fun d q => ?_, fun q => by cases q⟩
      cases q
      exact ⟨v, valV_pos rfl, h⟩
    · have e1 : valK ((.tuple (j.map .int), d0) :: ds) k = valK ds k := by simp [valK, List.find?_cons, keyOf_t, e]
      rw [e1, valV_neg (fun z => e (key_inj.mp z))]
      exact ih
theorem RpK.length : ∀ {ks : List (List Key × V)} {kvs : List (D × D)}, RpK K R ks kvs → ks.length = kvs.length
  | _, _, .nil => rfl
  | _, _, .cons _ r => by rw [List.length_cons, List.length_cons, r.length]
theorem RpK.snoc {k : List Int} {v : V} {d : D} (q : Rp K R v d) : ∀ {ks : List (List Key × V)} {kvs : List (D × D)}, RpK K R ks kvs → RpK K R (ks ++ [(k.map Sum.inl, v)]) (kvs ++ [(.tuple (k.map .int), d)])
  | _, _, .nil => .cons q .nil
  | _, _, .cons h r => .cons h (r.snoc q)
theorem RpK.over {k : List Int} {v : V} {d : D} (q : Rp K R v d) : ∀ {ks : List (List Key × V)} {kvs : List (D × D)}, RpK K R ks kvs → RpK K R (ks.map fun kv => if kv.1 = k.map Sum.inl then (kv.1, v) else kv) (kvs.map fun p => if keyOf p.1 = some k then (p.1, d) else p)
  | _, _, .nil => .nil
  | _, _, .cons (k := j) h r => by
    rw [List.map_cons, List.map_cons]
    by_cases e : j = k
    · subst e
      rw [if_pos rfl, if_pos (keyOf_t j)]
      exact .cons q (r.over q)
    · rw [if_neg (fun z => e (key_inj.mp z)), if_neg (fun z => e (Option.some.inj ((keyOf_t j).symm.trans z)))]
      exact .cons h (r.over q)
theorem RpK.put {k : List Int} {v : V} {d : D} {ks : List (List Key × V)} {kvs : List (D × D)} (r : RpK K R ks kvs) (q : Rp K R v d) : RpK K R (putK ks (k.map Sum.inl) v) (putKD kvs k d) := by
  unfold putK putKD
  rw [r.any k]
  split
  · exact r.over q
  · exact r.snoc q
end
section
variable {X : Cx} {E : WX}
def rDIn (neg : Bool) : R2 := fun x y H Q => ∃ a o, y = .ref a ∧ DGet H a x o ∧ Q (.bl (if neg then !o.isSome else o.isSome)) H
theorem op_dIn (hu : X.A.units + 1 < cLine) : OpR X (compareOp .In) (rDIn false) := fun pins s σ H x y v u Q I rx ry h => by
  obtain ⟨a, o, rfl, g, q⟩ := h
  obtain rfl : u = Value.ref a := ry
  exact d_in hu I g rx fun s3 I3 => ⟨.bl o.isSome, H, I3, rfl, q⟩
theorem op_dNotIn (hu : X.A.units + 1 < cLine) : OpR X (compareOp .NotIn) (rDIn true) := fun pins s σ H x y v u Q I rx ry h => by
  obtain ⟨a, o, rfl, g, q⟩ := h
  obtain rfl : u = Value.ref a := ry
  exact d_notIn hu I g rx fun s3 I3 => ⟨.bl (!o.isSome), H, I3, rfl, q⟩
theorem key_run {v : V} {d : D} {ns : List Int} {R H : Hp} (r : Rp X.K R v d) (s : Same R H) (h : keyOf d = some ns) : ∃ b, v = .ref b ∧ H b = some (.tup ((ns.map Sum.inl).map kV)) := by
  have e := keyOf_inv h
  subst e
  cases r with
  | tup h1 h2 =>
    refine ⟨_, rfl, ?_⟩
    rw [s _ _ h1, h2.ints_inv, List.map_map]
    rfl
theorem dget_run {v : V} {d : D} {ns : List Int} {R H : Hp} {a : Addr} {ks : List (List Key × V)} (r : Rp X.K R v d) (s : Same R H) (h : keyOf d = some ns) (hd : Rd R a (.dT ks)) : DGet H a v (valV ks (ns.map Sum.inl)) := by
  obtain ⟨b, rfl, hb⟩ := key_run r s h
  exact .inr ⟨ks, ns.map Sum.inl, b, rd_same s hd, rfl, hb, rfl⟩
def inG : D → D → Res D
  | x, .dict kvs => if obK kvs then .stuck else match keyOf x with
    | some ns => .ok (.bool (valK kvs ns).isSome)
    | none => .stuck
  | x, y => inD x y
def notInG : D → D → Res D
  | x, .dict kvs => if obK kvs then .stuck else match keyOf x with
    | some ns => .ok (.bool (!(valK kvs ns).isSome))
    | none => .stuck
  | x, y => notInD x y
theorem val_some {ks : List (List Key × V)} {kvs : List (D × D)} {ns : List Int} {K : PySem.W.Frag} {R : Hp} (r : RpK K R ks kvs) : (valV ks (ns.map Sum.inl)).isSome = (valK kvs ns).isSome := by
  have q := r.val ns
  cases z : valK kvs ns with
  | none => rw [q.2 z]; rfl
  | some d =>
    obtain ⟨v, e, _⟩ := q.1 d z
    rw [e]; rfl
theorem inG_dict {x : D} {kvs : List (D × D)} {ns : List Int} (ho : obK kvs = false) (hk : keyOf x = some ns) : inG x (.dict kvs) = .ok (.bool (valK kvs ns).isSome) := by
  simp only [inG, ho, hk, Bool.false_eq_true, if_false]
theorem notInG_dict {x : D} {kvs : List (D × D)} {ns : List Int} (ho : obK kvs = false) (hk : keyOf x = some ns) : notInG x (.dict kvs) = .ok (.bool (!(valK kvs ns).isSome)) := by
  simp only [notInG, ho, hk, Bool.false_eq_true, if_false]
theorem ob_put {kvs : List (D × D)} (k : List Int) (v : D) (ho : obK kvs = false) : obK (putKD kvs k v) = false := by
  unfold putKD
  split
  · cases kvs with
    | nil => rfl
    | cons p r =>
      obtain ⟨p1, p2⟩ := p
      cases p1 <;> first | (simp only [List.map_cons]; split <;> rfl) | (cases ho)
  · cases kvs with
    | nil => rfl
    | cons p r =>
      obtain ⟨p1, p2⟩ := p
      cases p1 <;> first | rfl | (cases ho)
theorem od_inG (hu : X.A.units + 65 < cLine) : OpD X (compareOp .In) inG := by
  obtain ⟨r, h1, h2⟩ := od_in (X := X) hu
  refine ⟨_, OpR.or h1 (op_dIn (by omega)), fun v w x y R H Q Ex rx ry s h => ?_⟩
  cases ry with
  | dT g1 g2 =>
    simp only [inG, g2.noOb, Bool.false_eq_true, if_false] at h
    split at h
    · rename_i ns hk
      refine .inr ⟨_, _, rfl, dget_run rx s hk g1, ?_⟩
      show Q (.bl (valV _ _).isSome) H
      rw [val_some g2]
      exact Post.now s (Rp.bl _) h
    · exact h.elim
  | lst g1 g2 => exact .inl (h2 _ _ _ _ R H Q Ex rx (.lst g1 g2) s (by cases x <;> exact h))
  | tup g1 g2 => exact .inl (h2 _ _ _ _ R H Q Ex rx (.tup g1 g2) s (by cases x <;> exact h))
  | ob g1 g2 => cases g1 <;> exact h.elim
  | _ => cases x <;> exact h.elim
theorem od_notInG (hu : X.A.units + 65 < cLine) : OpD X (compareOp .NotIn) notInG := by
  obtain ⟨r, h1, h2⟩ := od_notIn (X := X) hu
  refine ⟨_, OpR.or h1 (op_dNotIn (by omega)), fun v w x y R H Q Ex rx ry s h => ?_⟩
  cases ry with
  | dT g1 g2 =>
    simp only [notInG, g2.noOb, Bool.false_eq_true, if_false] at h
    split at h
    · rename_i ns hk
      refine .inr ⟨_, _, rfl, dget_run rx s hk g1, ?_⟩
      show Q (.bl (!(valV _ _).isSome)) H
      rw [val_some g2]
      exact Post.now s (Rp.bl _) h
    · exact h.elim
  | lst g1 g2 => exact .inl (h2 _ _ _ _ R H Q Ex rx (.lst g1 g2) s (by cases x <;> exact h))
  | tup g1 g2 => exact .inl (h2 _ _ _ _ R H Q Ex rx (.tup g1 g2) s (by cases x <;> exact h))
  | ob g1 g2 => cases g1 <;> exact h.elim
  | _ => cases x <;> exact h.elim
variable {a b c e o i value : Expr} {f g k : DS → Res D} {pos pos' : Pos}
def dgetD : D → D → Res D
  | .dict kvs, k => if obK kvs then .stuck else match keyOf k with
    | some ns => optR (valK kvs ns)
    | none => .stuck
  | _, _ => .stuck
theorem de_dget (hu : X.A.units + 65 < cLine) (ho : DE X E o f) (hi : DE X E i g) (hs : NoSl i := by exact fun _ _ => rfl) : DE X E (.Subscript o i pos) (e2 dgetD f g) := by
  obtain ⟨ta, a1, a2⟩ := ho
  obtain ⟨tb, b1, b2⟩ := hi
  refine ⟨_, pe_dget (by omega) a1 b1 hs, fun σ τ R H Q hs s h => ?_⟩
  refine a2 σ τ R H _ hs s (post_bind s h fun x v R1 H1 e1 q1 h1 => ?_)
  refine b2 σ τ R1 H1 _ (hs.mono e1.rr) e1.sub (post_bind e1.sub h1 fun y w R2 H2 e2 q2 h2 => ?_)
  have q1' := q1.mono e2.rr
  cases q1' with
  | dT g1 g2 =>
    simp only [dgetD, g2.noOb, Bool.false_eq_true, if_false] at h2
    split at h2
    · rename_i ns hk
      have r := g2.val ns
      cases z : valK _ ns with
      | none => rw [z] at h2; exact h2.elim
      | some d =>
        rw [z] at h2
        obtain ⟨v, z1, z2⟩ := r.1 d z
        exact ⟨_, v, rfl, by rw [← z1]; exact dget_run q2 e2.sub hk g1, Post.now e2.sub z2 h2⟩
    · exact h2.elim
  | ob g1 g2 => cases g1 <;> exact h2.elim
  | _ => exact h2.elim
theorem dget_dict {x : D} {kvs : List (D × D)} {ns : List Int} (ho : obK kvs = false) (hk : keyOf x = some ns) : dgetD (.dict kvs) x = optR (valK kvs ns) := by
  simp only [dgetD, ho, hk, Bool.false_eq_true, if_false]
def ownD (i : Nat) (σ : SS) (k : List (D × D) → SR) : SR := match σ[i]? with
  | some (some (.ow (.dict c))) => k c
  | _ => .stuck
def putS (i : Nat) (σ : SS) (kvs : List (D × D)) (k v : D) : SR := match keyOf k with
  | some ns => if kvs.length < sizeLine then .ok .nx (σ.set i (some (.ow (.dict (putKD kvs ns v))))) else .stuck
  | none => .stuck
def sPut (i : Nat) (fk fv : DS → Res D) : SF := fun σ => ownD i σ fun kvs => thenR (fv (mask σ)) σ fun v => thenR (fk (mask σ)) σ fun k => putS i σ kvs k v
def sPutV (i : Nat) (fk fv : DS → Res D) : SF := fun σ => ownD i σ fun kvs => thenR (fv (view σ)) σ fun v => if flat v then thenR (fk (view σ)) σ fun k => if flat k then putS i σ kvs k v else .stuck else .stuck
variable {R0 H0 R H : Hp} {σ : SS} {τ : L2.St} {Dn : Ends} {x : Str} {np : Pos} {fk fv : DS → Res D}
theorem ownD_run {i : Nat} {k : List (D × D) → SR} (I : RO X.K R0 H0 R H σ τ) (q : SPost X E R0 H0 Dn (ownD i σ k)) : ∃ a c, σ[i]? = some (some (.ow (.dict c))) ∧ τ[i]? = some (some (.ref a)) ∧ SPost X E R0 H0 Dn (k c) := by
  unfold ownD at q
  split at q
  · rename_i c hc
    obtain ⟨a, h1, _⟩ := I.ow i _ hc
    exact ⟨a, c, hc, h1, q⟩
  · exact q.elim
theorem putS_run {j : Nat} {dk dv : D} {k v : V} {a : Addr} {kvs : List (D × D)} (hc : σ[j]? = some (some (.ow (.dict kvs)))) (h1 : τ[j]? = some (some (.ref a))) (I : RO X.K R0 H0 R H σ τ) (rk : Rp X.K R k dk) (rv : Rp X.K R v dv) (q : SPost X E R0 H0 Dn (putS j σ kvs dk dv)) :
    ∃ H4, DPut H a k v H4 ∧ Dn.nx τ H4 := by
  obtain ⟨a', h1', h2, h3, ks, h4, h5⟩ := I.ow j _ hc
  rw [h1] at h1'; cases h1'
  unfold putS at q
  split at q
  · rename_i ns hk
    split at q
    · rename_i hl
      obtain ⟨b, rfl, hb⟩ := key_run rk I.ext.sub hk
      exact ⟨_, DPut.t h4 hb (by rw [h5.length]; exact hl), q R _ τ (I.mut (d := .dict (putKD kvs ns dv)) hc h1 ⟨_, upd_same, h5.put rv⟩)⟩
    · exact q.elim
  · exact q.elim
theorem ds_put (j : Nat) (hu : X.A.units + 65 < cLine) (hv : IsV X j x np) (hk : DE X E i fk) (hval : DE X E value fv) (hs : swapsWith value (some (.Subscript (.Name x np) i pos')) pos.line X.env = pure false := by rfl) :
    DS1 X E (.Assign [.Subscript (.Name x np) i pos'] value pos) (sPut j fk fv) := by
  obtain ⟨ta, a1, a2⟩ := hk
  obtain ⟨tb, b1, b2⟩ := hval
  refine ⟨_, ps_dput (by omega) hv a1 b1 hs, fun R0 H0 σ τ R H Dn I q => ?_⟩
  obtain ⟨a, kvs, hc, h1, q⟩ := ownD_run I q
  refine b2 (mask σ) τ R H _ I.mask I.ext.sub (post_mask I q fun dv v R' H' J y z => ⟨_, h1, ?_⟩)
  refine a2 (mask σ) τ R' H' _ J.mask J.ext.sub ?_
  have : SPost X E R0 H0 Dn (thenR (fk (mask σ)) σ fun k => putS j σ kvs k dv) := z
  cases w : fk (mask σ) with
  | ok dk =>
    rw [w] at this
    intro k R2 H2 e2 q2
    obtain ⟨H4, w1, w2⟩ := putS_run hc h1 (J.step e2) q2 (y.mono e2.rr) this
    exact ⟨a, H4, rfl, w1, w2⟩
  | exc ex => rw [w] at this; exact fun c dx H2 s y2 => this c dx R' H2 τ (J.same s) (y2.back J.ext.hh)
  | stuck => rw [w] at this; exact this
theorem ds_putV (j : Nat) (hu : X.A.units + 65 < cLine) (hv : IsV X j x np) (hk : DE X E i fk) (hval : DE X E value fv) (hs : swapsWith value (some (.Subscript (.Name x np) i pos')) pos.line X.env = pure false := by rfl) :
    DS1 X E (.Assign [.Subscript (.Name x np) i pos'] value pos) (sPutV j fk fv) := by
  obtain ⟨ta, a1, a2⟩ := hk
  obtain ⟨tb, b1, b2⟩ := hval
  refine ⟨_, ps_dput (by omega) hv a1 b1 hs, fun R0 H0 σ τ R H Dn I q => ?_⟩
  obtain ⟨a, kvs, hc, h1, q⟩ := ownD_run I q
  refine b2 (view σ) τ (full σ τ R H) H _ I.viewed I.fullH (post_view I q fun dv v R' H' J y z => ⟨_, h1, ?_⟩)
  refine a2 (view σ) τ (full σ τ R' H') H' _ J.viewed J.fullH ?_
  have z' : SPost X E R0 H0 Dn (thenR (fk (view σ)) σ fun k => if flat k then putS j σ kvs k dv else .stuck) := z
  cases w : fk (view σ) with
  | ok dk =>
    rw [w] at z'
    have z'' : SPost X E R0 H0 Dn (if flat dk then putS j σ kvs dk dv else .stuck) := z'
    intro k R2 H2 e2 q2
    by_cases hf : flat dk = true
    · rw [if_pos hf] at z''
      have e3 : Same R' (hide σ τ R2) := fun b o hb => by
        have nb : ¬ owned σ τ b := fun w => by rw [(J.ownd w).1] at hb; cases hb
        rw [hide_n nb]
        exact e2.rr _ _ (by rw [full_n nb]; exact hb)
      obtain ⟨J2, tu⟩ := J.stepF e2
      obtain ⟨H4, w1, w2⟩ := putS_run hc h1 J2 (Rp.flat tu q2 hf) (y.mono e3) z''
      exact ⟨a, H4, rfl, w1, w2⟩
    · rw [if_neg hf] at z''; exact z''.elim
  | exc ex => rw [w] at z'; exact fun c dx H2 s y2 => z' c dx R' H2 τ (J.same s) (y2.back J.ext.hh)
  | stuck => rw [w] at z'; exact z'
end

def Walk (K : PySem.W.Frag) (J : It) (R : Hp) (ds : List D) : Prop := ∀ R' H' : Hp, Same R R' → Same R' H' →
  (∀ (i : Nat) (d : D), ds[i]? = some d → J.go i H' ∧ ∀ x H'', J.yld i H' x H'' → ∃ R'', Ext R' H' R'' H'' ∧ Rp K R'' x d) ∧ J.stop ds.length H'
structure DI (X : Cx) (E : WX) (tg iter : Expr) (f : DS → Res (List D)) : Prop where
  run : ∃ wi : TI, PI X tg iter wi ∧ ∀ (σ : DS) (τ : L2.St) (R H : Hp) (Rq : It → Hp → Prop), RS X.K R σ τ → Same R H → Post X.K X.mg (xat E τ) (fun R' (J : It) ds => Walk X.K J R' ds) R H Rq (f σ) → wi τ H Rq
structure DR (X : Cx) (E : WX) (tg iter : Expr) (f : DS → Res (List D)) : Prop where
  run : ∃ wi : TI, PI X tg iter wi ∧ ∀ (σ : DS) (τ : L2.St) (R H : Hp) (Rq : It → Hp → Prop), RS X.K R σ τ → Same R H → Post X.K X.mg (xat E τ) (fun _ (J : It) ds => ∀ R', Walk X.K J R' ds) R H Rq (f σ) → wi τ H Rq
section
variable {X : Cx} {E : WX} {tg e iter : Expr} {f : DS → Res D} {pos p : Pos}
theorem DR.di {f : DS → Res (List D)} (h : DR X E tg iter f) : DI X E tg iter f := by
  obtain ⟨wi, h1, h2⟩ := h
  refine ⟨wi, h1, fun σ τ R H Rq hs s q => h2 σ τ R H Rq hs s ?_⟩
  cases z : f σ with
  | ok ds => rw [z] at q; exact fun J R' H' e w => q J R' H' e (w R')
  | exc x => rw [z] at q; exact q
  | stuck => rw [z] at q; exact q
def seqOf : D → Res (List D)
  | .list ds => .ok ds
  | .tuple ds => .ok ds
  | _ => .stuck
def iSeq (K : PySem.W.Frag) (tl : TE) : TI := fun τ H Rq => tl τ H fun x H1 => ∃ a, x = .ref a ∧ (((∃ xs, SqL K H1 a xs) ∧ Rq (Itl K a) H1) ∨ ((∃ xs, SqT K H1 a xs) ∧ Rq (Itt K a) H1))
theorem pi_seq {tl : TE} (hl : PE X e tl) : PI X tg e (iSeq X.K tl) := by
  refine ⟨fun pins s σ H Rq I h => ?_⟩
  refine thn (hl.run pins s σ H _ I h) fun v s1 ⟨x, H1, I1, r1, a, ea, q⟩ => ?_
  subst ea
  cases r1
  rcases q with ⟨⟨xs, hq⟩, q⟩ | ⟨⟨xs, hq⟩, q⟩
  · obtain ⟨its, rv, pl, hz⟩ := I1.list hq
    refine wpAny_pyIter_list pl.isList ?_
    refine ⟨s1.heap.objs.size, [s1.heap.objs.size], _, _, H1, rfl, I1.kept (t' := s1.toks) fun b o eb => Heap.get?_push_of_some _ eb, turn_list a _, ⟨_, Heap.get?_push_size _ rfl, rfl, rfl⟩, fun b hb => ?_, q⟩
    obtain rfl : b = s1.heap.objs.size := by simpa using hb
    exact I1.fpOk (Nat.le_refl _) (I1.hok.fresh (Nat.le_refl _))
  · obtain ⟨its, rv, pl, hz⟩ := I1.tuple hq
    refine wpAny_pyIter_tuple (show s1.heap.IsTuple a its.toArray from pl) ?_
    refine ⟨s1.heap.objs.size, [s1.heap.objs.size], _, _, H1, rfl, I1.kept (t' := s1.toks) fun b o eb => Heap.get?_push_of_some _ eb, turn_tuple a _, ⟨_, Heap.get?_push_size _ rfl, rfl, rfl⟩, fun b hb => ?_, q⟩
    obtain rfl : b = s1.heap.objs.size := by simpa using hb
    exact I1.fpOk (Nat.le_refl _) (I1.hok.fresh (Nat.le_refl _))
theorem walk_list {K : PySem.W.Frag} {R : Hp} {a : Addr} {xs : List V} {ds : List D} (h : LsQ K R a xs) (q : RpA K R xs ds) : Walk K (Itl K a) R ds := fun R' H' s1 s2 => by
  have hH : SqL K H' a xs := (ls_same s2 (ls_same s1 h)).sq
  refine ⟨fun i d hd => ?_, xs, hH, by rw [q.length]; exact Nat.le_refl _⟩
  obtain ⟨v, z1, z2⟩ := q.get hd
  refine ⟨⟨xs, v, hH, z1⟩, fun x H'' y => ?_⟩
  obtain ⟨rfl, y⟩ := y
  have e := y xs hH
  rw [z1] at e; cases e
  exact ⟨R', Ext.refl s2, z2.mono s1⟩
theorem walk_tup {K : PySem.W.Frag} {R : Hp} {a : Addr} {xs : List V} {ds : List D} (h : R a = some (.tup xs)) (q : RpA K R xs ds) : Walk K (Itt K a) R ds := fun R' H' s1 s2 => by
  have hH : SqT K H' a xs := SqT.of (s2 _ _ (s1 _ _ h))
  refine ⟨fun i d hd => ?_, xs, hH, by rw [q.length]; exact Nat.le_refl _⟩
  obtain ⟨v, z1, z2⟩ := q.get hd
  refine ⟨⟨xs, v, hH, z1⟩, fun x H'' y => ?_⟩
  obtain ⟨rfl, y⟩ := y
  have e := y xs hH
  rw [z1] at e; cases e
  exact ⟨R', Ext.refl s2, z2.mono s1⟩
theorem di_seq (he : DE X E e f) : DI X E tg e (fun σ => (f σ).bind seqOf) := by
  obtain ⟨t, e1, e2⟩ := he
  refine ⟨_, pi_seq e1, fun σ τ R H Rq hs s q => e2 σ τ R H _ hs s (post_bind s q fun d v R1 H1 x1 q1 h1 => ?_)⟩
  cases q1 with
  | lst g1 g2 => exact ⟨_, rfl, .inl ⟨⟨_, (ls_same x1.sub g1).sq⟩, Post.now x1.sub (walk_list g1 g2) h1⟩⟩
  | tup g1 g2 => exact ⟨_, rfl, .inr ⟨⟨_, SqT.of (x1.sub _ _ g1)⟩, Post.now x1.sub (walk_tup g1 g2) h1⟩⟩
  | _ => exact h1.elim
def rangeD (lo hi : Int) : List D := (List.range (hi - lo).toNat).map fun (i : Nat) => .int (lo + i)
theorem walk_range {K : PySem.W.Frag} (lo hi : Int) (n : Nat) (hn : n = (hi - lo).toNat) (R : Hp) : Walk K (Itr lo n) R (rangeD lo hi) := fun R' H' s1 s2 => by
  subst hn
  have hl : (rangeD lo hi).length = (hi - lo).toNat := by simp [rangeD]
  refine ⟨fun i d hd => ?_, by rw [hl]; exact Nat.le_refl _⟩
  have hi' : i < (hi - lo).toNat := by rw [← hl]; exact (List.getElem?_eq_some_iff.mp hd).1
  refine ⟨hi', fun x H'' y => ?_⟩
  obtain ⟨rfl, rfl⟩ := y
  unfold rangeD at hd
  rw [List.getElem?_map, List.getElem?_range hi'] at hd
  cases hd
  exact ⟨R', Ext.refl s2, Rp.int _⟩
def rng1 : List D → Res (List D)
  | [.int n] => if -(2 ^ 62) ≤ n ∧ n < 2 ^ 62 then .ok (rangeD 0 n) else .stuck
  | _ => .stuck
def rng2 : List D → Res (List D)
  | [.int a, .int b] => if -(2 ^ 62) ≤ a ∧ a < 2 ^ 62 ∧ -(2 ^ 62) ≤ b ∧ b < 2 ^ 62 then .ok (rangeD a b) else .stuck
  | _ => .stuck
variable {a b : Expr} {ga : DS → Res (List D)}
theorem dr_range1 (hg : Gl X "range") (hm : X.mg "range" = none) (ha : DA X E [a] ga) (hs : starEach [a] X.env = [(false, eval a X.env)] := by rfl) : DR X E tg (.Call (.Name "range" p) [a] [] pos) (fun σ => (ga σ).bind rng1) := by
  obtain ⟨t, a1, a2⟩ := ha
  refine ⟨_, pi_range1 hg hm a1 hs, fun σ τ R H Rq hs s q => a2 σ τ R H _ hs s (post_bind s q fun d v R1 H1 x1 q1 h1 => ?_)⟩
  match d, q1, h1 with
  | [.int n], q1, h1 =>
    obtain ⟨v, rfl, r⟩ := one_inv q1
    cases r
    simp only [rng1] at h1
    split at h1
    · rename_i hl
      refine ⟨n, rfl, hl.1, hl.2, Post.now x1.sub (fun R' => ?_) h1⟩
      exact walk_range 0 n _ (by omega) R'
    · exact h1.elim
  | [], _, h1 => exact h1.elim
  | [.none], _, h1 => exact h1.elim
  | [.bool _], _, h1 => exact h1.elim
  | [.str _], _, h1 => exact h1.elim
  | [.list _], _, h1 => exact h1.elim
  | [.tuple _], _, h1 => exact h1.elim
  | [.dict _], _, h1 => exact h1.elim
  | d1 :: _ :: _, _, h1 => cases d1 <;> exact h1.elim
theorem dr_range2 (hg : Gl X "range") (hm : X.mg "range" = none) (ha : DA X E [a, b] ga) (hs : starEach [a, b] X.env = [(false, eval a X.env), (false, eval b X.env)] := by rfl) (hs2 : starEach [b] X.env = [(false, eval b X.env)] := by rfl) :
    DR X E tg (.Call (.Name "range" p) [a, b] [] pos) (fun σ => (ga σ).bind rng2) := by
  obtain ⟨t, a1, a2⟩ := ha
  refine ⟨_, pi_range2 hg hm a1 hs hs2, fun σ τ R H Rq hs s q => a2 σ τ R H _ hs s (post_bind s q fun d v R1 H1 x1 q1 h1 => ?_)⟩
  match d, q1, h1 with
  | [.int n, .int m], q1, h1 =>
    obtain ⟨v, w, rfl, r, r'⟩ := two_inv q1
    cases r
    cases r'
    simp only [rng2] at h1
    split at h1
    · rename_i hl
      exact ⟨n, m, rfl, hl, Post.now x1.sub (fun R' => walk_range n m _ rfl R') h1⟩
    · exact h1.elim
  | [], _, h1 => exact h1.elim
  | [d1], _, h1 => cases d1 <;> exact h1.elim
  | d1 :: d2 :: d3 :: _, _, h1 => cases d1 <;> cases d2 <;> exact h1.elim
  | [.none, _], _, h1 => exact h1.elim
  | [.bool _, _], _, h1 => exact h1.elim
  | [.str _, _], _, h1 => exact h1.elim
  | [.list _, _], _, h1 => exact h1.elim
  | [.tuple _, _], _, h1 => exact h1.elim
  | [.dict _, _], _, h1 => exact h1.elim
  | [.int _, .none], _, h1 => exact h1.elim
  | [.int _, .bool _], _, h1 => exact h1.elim
  | [.int _, .str _], _, h1 => exact h1.elim
  | [.int _, .list _], _, h1 => exact h1.elim
  | [.int _, .tuple _], _, h1 => exact h1.elim
  | [.int _, .dict _], _, h1 => exact h1.elim

def forS (p : GF) (body : SF) : List D → SS → SR
  | [], σ => .ok .nx σ
  | d :: ds, σ => match p d σ with
    | none => .stuck
    | some σ1 => match body σ1 with
      | .ok .nx σ2 => forS p body ds σ2
      | .ok .ct σ2 => forS p body ds σ2
      | .ok .bk σ2 => .ok .nx σ2
      | .ok (.rt v) σ2 => .ok (.rt v) σ2
      | .exc x σ2 => .exc x σ2
      | .stuck => .stuck
def un (H0 R : Hp) : Hp := fun a => match H0 a with
  | some o => some o
  | none => R a
theorem un_l {H0 R : Hp} : Same H0 (un H0 R) := fun a o h => by unfold un; rw [h]
theorem un_none {H0 R : Hp} {a : Addr} : un H0 R a = none ↔ H0 a = none ∧ R a = none := by
  unfold un
  cases H0 a with
  | none => simp
  | some o => simp
theorem un_sub {H0 R H : Hp} (h1 : Same H0 H) (h2 : Same R H) : Same (un H0 R) H := fun a o h => by
  unfold un at h
  cases q : H0 a with
  | none => rw [q] at h; exact h2 _ _ h
  | some o' => rw [q] at h; cases h; exact h1 _ _ q
section
variable {R0 H0 R1 H1 R H : Hp} {σ : SS} {τ : L2.St} {Dn : Ends}
theorem RO.into {K : PySem.W.Frag} (I : RO K R0 H0 R H σ τ) (s1 : Same R0 R1) (s2 : Same R1 R) : RO K R1 (un H0 R1) R H σ τ where
  ext := ⟨s2, I.ext.sub, un_sub I.ext.hh (s2.trans I.ext.sub), fun a o h => by
    cases q : R1 a with
    | some o' => rw [s2 _ _ q] at h; cases h; exact .inl rfl
    | none =>
      refine .inr ?_
      rcases I.ext.new a o h with z | z | z
      · rw [s1 _ _ z] at q; cases q
      · exact .inl (un_none.mpr ⟨z, q⟩)
      · exact .inr z⟩
  sh := I.sh
  ow := fun i d h => by
    obtain ⟨a, h1, h2, h3, h4⟩ := I.ow i d h
    exact ⟨a, h1, h2, un_none.mpr ⟨h3, s2.free h2⟩, h4⟩
  ne := I.ne
  len := I.len
theorem Ext.outof (e1 : Ext R0 H0 R1 H1) (e : Ext R1 (un H0 R1) R H) : Ext R0 H0 R H := ⟨e1.rr.trans e.rr, e.sub, un_l.trans e.hh, fun a o h => by
  rcases e.new a o h with z | z | z
  · exact e1.new a o z
  · exact .inr (.inl (un_none.mp z).1)
  · exact .inr (.inr z)⟩
theorem RO.outof {K : PySem.W.Frag} (e1 : Ext R0 H0 R1 H1) (I : RO K R1 (un H0 R1) R H σ τ) : RO K R0 H0 R H σ τ where
  ext := e1.outof I.ext
  sh := I.sh
  ow := fun i d h => by
    obtain ⟨a, h1, h2, h3, h4⟩ := I.ow i d h
    exact ⟨a, h1, h2, (un_none.mp h3).1, h4⟩
  ne := I.ne
  len := I.len
end
variable {body : List Stmt} {pt : GF} {ix : List Nat} {gb : SF} {it : DS → Res (List D)}
theorem for_run {R0 H0 R1 H1 : Hp} {σ : SS} {τ : L2.St} {Dn : Ends} {J : It} {ds : List D} {tg' : TG} {tb : TS}
    (hg : ∀ (R0 H0 : Hp) (d : D) (v : V) (σ σ' : SS) (τ : L2.St) (R H : Hp) (Q : L2.St → Hp → Prop), RO X.K R0 H0 R H σ τ → Rp X.K R v d → pt d σ = some σ' → (∀ R' H' τ', Same R R' → Wp ix τ τ' → RO X.K R0 H0 R' H' σ' τ' → Q τ' H') → tg' v τ H Q)
    (hb : ∀ (R0 H0 : Hp) (σ : SS) (τ : L2.St) (R H : Hp) (Dn : Ends), RO X.K R0 H0 R H σ τ → SPost X E R0 H0 Dn (gb σ) → tb Dn τ H)
    (I : RO X.K R0 H0 R1 H1 σ τ) (w : Walk X.K J R1 ds) (q : SPost X E R0 H0 Dn (forS pt gb ds σ)) :
    ∃ W : Nat → Nat → L2.St → Hp → Prop, (∃ m, W 0 m τ H1) ∧ ∀ i m τ H, W i m τ H → (J.stop i H ∧ Dn.nx τ H) ∨ (J.go i H ∧ ∃ N : L2.St → Hp → Prop, (∀ τ' H', N τ' H' → ∃ m', m' < m ∧ W (i + 1) m' τ' H') ∧
      ∀ x H', J.yld i H x H' → tg' x τ H' fun τ2 H2 => tb { Dn with nx := N, ct := N, bk := Dn.nx } τ2 H2) := by
  have e1 := I.ext
  refine ⟨fun i m τ H => m = ds.length - i ∧ i ≤ ds.length ∧ ∃ σ R, Same R1 R ∧ RO X.K R0 H0 R H σ τ ∧ SPost X E R0 H0 Dn (forS pt gb (ds.drop i) σ), ⟨ds.length, by simp, Nat.zero_le _, σ, R1, Same.refl _, I, by rw [List.drop_zero]; exact q⟩, ?_⟩
  rintro i m τ H ⟨rfl, hi, σ, R, sR, J1, q1⟩
  obtain ⟨w1, w2⟩ := w R H sR J1.ext.sub
  by_cases hlt : i < ds.length
  · have hd : ds[i]? = some ds[i] := List.getElem?_eq_getElem hlt
    obtain ⟨go, yl⟩ := w1 i _ hd
    rw [List.drop_eq_getElem_cons hlt] at q1
    refine .inr ⟨go, fun τ' H' => ∃ σ' R', Same R1 R' ∧ RO X.K R0 H0 R' H' σ' τ' ∧ SPost X E R0 H0 Dn (forS pt gb (ds.drop (i + 1)) σ'), fun τ' H' ⟨σ', R', a, b, c⟩ => ⟨ds.length - (i + 1), by omega, rfl, hlt, σ', R', a, b, c⟩, fun x H' y => ?_⟩
    obtain ⟨R2, x2, r2⟩ := yl x H' y
    have J2 := J1.step x2
    have sR2 : Same R1 R2 := sR.trans x2.rr
    unfold forS at q1
    split at q1
    · exact q1.elim
    · rename_i σ1 hp
      refine hg R0 H0 _ x σ σ1 τ R2 H' _ J2 r2 hp fun R3 H3 τ3 s3 _ J3 => ?_
      have sR3 : Same R1 R3 := sR2.trans s3
      refine hb R1 (un H0 R1) σ1 τ3 R3 H3 _ (J3.into e1.rr sR3) ?_
      cases z : gb σ1 with
      | ok o σ2 =>
        rw [z] at q1
        cases o with
        | nx => exact fun R4 H4 τ4 J4 => ⟨σ2, R4, J4.ext.rr, J4.outof e1, q1⟩
        | ct => exact fun R4 H4 τ4 J4 => ⟨σ2, R4, J4.ext.rr, J4.outof e1, q1⟩
        | bk => exact fun R4 H4 τ4 J4 => q1 R4 H4 τ4 (J4.outof e1)
        | rt d => exact fun v R4 H4 x4 r4 => q1 v R4 H4 (e1.outof x4) r4
      | exc ex σ2 => rw [z] at q1; exact fun c dx R4 H4 τ4 J4 y4 => q1 c dx R4 H4 τ4 (J4.outof e1) (y4.back un_l)
      | stuck => rw [z] at q1; exact q1
  · have e : i = ds.length := by omega
    subst e
    rw [List.drop_length] at q1
    exact .inl ⟨w2, q1 R H τ J1⟩
def sFor (it : DS → Res (List D)) (p : GF) (body : SF) : SF := fun σ => thenR (it (mask σ)) σ fun ds => forS p body ds σ
theorem ds_for (hp : PassesOwn (model X.prog X.w) X.A X.env X.xe) (hc : X.calm = true) (hi : DI X E tg iter it) (hg : DG X tg ix pt) (hb : DSs X E body gb) (hs : ∀ x, foldedSetIterable iter X.env x = pure x := by intro _; rfl) :
    DS1 X E (.For tg iter body [] pos) (sFor it pt gb) := by
  obtain ⟨wi, i1, i2⟩ := hi
  obtain ⟨tg', g1, g2⟩ := hg
  obtain ⟨tb, b1, b2⟩ := hb
  refine ⟨_, ps_for hp hc i1 g1 b1 hs, fun R0 H0 σ τ R H Dn I q => i2 (mask σ) τ R H _ I.mask I.ext.sub (post_mask I q fun ds J R' H' J1 w z => ?_)⟩
  exact for_run g2 b2 J1 w z
def sForR (it : DS → Res (List D)) (p : GF) (body : SF) : SF := fun σ => thenR (it (view σ)) σ fun ds => forS p body ds σ
theorem ds_forR (hp : PassesOwn (model X.prog X.w) X.A X.env X.xe) (hc : X.calm = true) (hi : DR X E tg iter it) (hg : DG X tg ix pt) (hb : DSs X E body gb) (hs : ∀ x, foldedSetIterable iter X.env x = pure x := by intro _; rfl) :
    DS1 X E (.For tg iter body [] pos) (sForR it pt gb) := by
  obtain ⟨wi, i1, i2⟩ := hi
  obtain ⟨tg', g1, g2⟩ := hg
  obtain ⟨tb, b1, b2⟩ := hb
  refine ⟨_, ps_for hp hc i1 g1 b1 hs, fun R0 H0 σ τ R H Dn I q => i2 (view σ) τ (full σ τ R H) H _ I.viewed I.fullH ?_⟩
  unfold sForR at q
  cases z : it (view σ) with
  | ok ds =>
    rw [z] at q
    exact fun J R' H' x w => for_run g2 b2 (I.stepF x).1 (w _) q
  | exc ex => rw [z] at q; exact fun c dx H' s y => q c dx R H' τ (I.same s) (y.back I.ext.hh)
  | stuck => rw [z] at q; exact q
end
end E3

namespace E3
open PySem PySem.Spec PyProof.Rows L2

def spD (K : PySem.W.Frag) (mg : Str → Option Value) (n : Nat) (F : List D → Res D) : Sp := fun vs H Q Ex =>
  vs.length = n ∧ ∃ R ds, Same R H ∧ RpA K R vs ds ∧ Post K mg Ex (rV K) R H Q (F ds)
def endF : SR → Res D
  | .ok (.rt d) _ => .ok d
  | .ok .nx _ => .ok .none
  | .exc e _ => .exc e
  | _ => .stuck
def startF (N : Nat) (ds : List D) : SS := ds.map (fun d => some (.sh d)) ++ List.replicate (N - ds.length) none
def fnD (N n : Nat) (g : SF) : List D → Res D := fun ds => if ds.length = n then endF (g (startF N ds)) else .stuck
section
variable {P : Program} {w : World} {K : PySem.W.Frag} {mg : Str → Option Value} {base : Heap}
theorem start_ro {N : List Str} {vs : List V} {ds : List D} {R H : Hp} (s : Same R H) (h : RpA K R vs ds) : RO K R H R H (startF N.length ds) (L2.start N vs) := by
  have hl := h.length
  have sh : ∀ (i : Nat) (z : Slot), (startF N.length ds)[i]? = some (some z) → ∃ d, ds[i]? = some d ∧ z = .sh d := fun i z q => by
    unfold startF at q
    by_cases hi : i < ds.length
    · rw [List.getElem?_append_left (by rw [List.length_map]; exact hi), List.getElem?_map, List.getElem?_eq_getElem hi] at q
      cases q
      exact ⟨_, List.getElem?_eq_getElem hi, rfl⟩
    · rw [List.getElem?_append_right (by rw [List.length_map]; omega)] at q
      have := List.mem_of_getElem? q
      rw [List.mem_replicate] at this
      cases this.2
  refine ⟨Ext.refl s, fun i d q => ?_, fun i d q => ?_, fun i j d e a q1 q2 => ?_, ?_⟩
  · obtain ⟨d', h1, h2⟩ := sh i _ q
    cases h2
    obtain ⟨v, z1, z2⟩ := h.get h1
    refine ⟨v, ?_, z2⟩
    unfold L2.start
    have hv : i < vs.length := (List.getElem?_eq_some_iff.mp z1).1
    rw [List.getElem?_append_left (by rw [List.length_map]; exact hv), List.getElem?_map, z1]
    rfl
  · obtain ⟨d', h1, h2⟩ := sh i _ q
    cases h2
  · obtain ⟨d', h1, h2⟩ := sh i _ q1
    cases h2
  · unfold startF L2.start
    simp [hl]
theorem fn_mk {x qual : Str} {st : Stmt} {f : Addr} {fd : FuncData} {N ps : List Str} {k : Nat} {g : SF} (F : Fun K x qual st f fd) (S : FnScope N ps (defScope st))
    (hb : ∀ (cdv : Value) (A : Around) (outer : List Env) (s : Shared) (H : Hp) (Ex : XK), Room k (A.deeper (envOfC qual (defScope st) s.heap.objs.size f cdv)) →
      DSs (cxOf (L2.CX P w) P w K mg base N qual (defScope st) f cdv A outer s H Ex) (fun c d _ H => Ex c d H) (defBody st) g) :
    FnOk P w K mg base (L2.CX P w) (k + 1) f fd ps (spD K mg ps.length (fnD N.length ps.length g)) := by
  refine F.okX S (fun vs H Q Ex h => h.1) (fun cdv A outer s H vs Q Ex hr h => ?_)
  obtain ⟨hl, R, ds, sR, hv, q⟩ := h
  obtain ⟨t, t1, t2⟩ := hb cdv A outer s H Ex hr
  refine ⟨t, t1, t2 R H (startF N.length ds) (L2.start N vs) R H _ (start_ro sR hv) ?_⟩
  unfold fnD at q
  rw [if_pos (by rw [← hv.length]; exact hl)] at q
  cases z : g (startF N.length ds) with
  | ok o σ =>
    rw [z] at q
    cases o with
    | nx => exact fun R' H' τ' J => q _ R' H' J.ext Rp.non
    | rt d => exact fun v R' H' x r => q v R' H' x r
    | bk => exact q.elim
    | ct => exact q.elim
  | exc e σ => rw [z] at q; exact fun c dx R' H' τ' J y => q c dx H' J.ext.hh y
  | stuck => rw [z] at q; exact q.elim
abbrev FnD (P : Program) (w : World) (K : PySem.W.Frag) (mg : Str → Option Value) (base : Heap) (k : Nat) (f : Addr) (fd : FuncData) (ps : List Str) (F : List D → Res D) : Prop :=
  FnOk P w K mg base (L2.CX P w) k f fd ps (spD K mg ps.length F)
end
section
variable {X : Cx} {E : WX} {k : Nat} {f : Addr} {fd : FuncData} {ps : List Str} {F : List D → Res D} {x : Str} {p pos : Pos} {e : Expr} {es : List Expr} {ga : DS → Res (List D)}
theorem de_call (G : FnD X.prog X.w X.K X.mg X.base k f fd ps F) (hr : Room k X.A) (hg : Gl X x) (hm : X.mg x = some (.ref f)) (hk : PySem.W.keepIn X.K (.ref f) = true) (hb : Binds X.K fd ps []) (tk : Takes X E)
    (hF : ∀ ds, ds.length ≠ ps.length → F ds = .stuck) (ha : DA X E (e :: es) ga) (hdb : (x == ("__debug__" : Str)) = false := by decide) (he : starEach (e :: es) X.env = (false, eval e X.env) :: starEach es X.env := by rfl) (hpl : (backTo pos (starEach es X.env)).any (·.1) = false := by rfl) :
    DE X E (.Call (.Name x p) (e :: es) [] pos) (eCall F ga) := by
  obtain ⟨t, a1, a2⟩ := ha
  refine ⟨_, pe_callS G hr hg hm hk hb (fun σ => passAt tk σ) a1 hdb he hpl, fun σ τ R H Q hs s h => a2 σ τ R H _ hs s (post_bind s h fun d v R1 H1 e1 q1 h1 => ?_)⟩
  refine ⟨?_, R1, d, e1.sub, q1, h1⟩
  by_cases hl : d.length = ps.length
  · rw [q1.length]; exact hl
  · rw [hF d hl] at h1; exact h1.elim
theorem fnD_len {N n : Nat} {g : SF} : ∀ ds, ds.length ≠ n → fnD N n g ds = .stuck := fun ds h => if_neg h

def Res.ne {α : Type} : Res α → Res α
  | .ok a => .ok a
  | _ => .stuck
def wipeD (σ : DS) : List Nat → DS
  | [] => σ
  | v :: vs => (wipeD σ vs).set v none
def upS (σ : DS) : SS := σ.map fun o => o.map Slot.sh
def patD (p : GF) (d : D) (σ : DS) : Option DS := (p d (upS σ)).map view
def lcD (p : GF) (c : DS → Res Bool) (f : DS → Res D) (σ : DS) : List D → Res (List D)
  | [] => .ok []
  | d :: ds => match patD p d σ with
    | none => .stuck
    | some σ2 => (c σ2).ne.bind fun b => if b then (f σ2).ne.bind fun y => (lcD p c f σ ds).bind fun ys => .ok (y :: ys) else lcD p c f σ ds
def eLc (it : DS → Res (List D)) (p : GF) (vs : List Nat) (c : DS → Res Bool) (f : DS → Res D) : DS → Res D := fun σ => (it σ).bind fun ds => if ds.length ≤ sizeLine then (lcD p c f (wipeD σ vs) ds).bind fun ys => .ok (.list ys) else .stuck
def tYesD : DS → Res Bool := fun _ => .ok true
abbrev E00 : WX := fun _ _ _ _ => False
structure DTs (X : Cx) (E : WX) (ifs : List Expr) (f : DS → Res Bool) : Prop where
  run : ∃ t : TT, PTs X ifs t ∧ ∀ (σ : DS) (τ : L2.St) (R H : Hp) (Q : Bool → Hp → Prop), RS X.K R σ τ → Same R H → Post X.K X.mg (xat E τ) rB R H Q (f σ) → t τ H Q
theorem dts_nil : DTs X E [] tYesD := ⟨_, pts_nil, fun _ _ _ _ _ _ s h => Post.now s (rel := rB) rfl h⟩
theorem dts_one {c : Expr} {f : DS → Res Bool} (h : DT X E c f) : DTs X E [c] f := by
  obtain ⟨t, h1, h2⟩ := h
  exact ⟨t, pts_one h1, h2⟩
theorem wipe_rs {K : PySem.W.Frag} {R : Hp} {σ : DS} {τ : L2.St} (h : RS K R σ τ) : ∀ vs : List Nat, RS K R (wipeD σ vs) (wipe τ vs)
  | [] => h
  | v :: vs => by
    have ih := wipe_rs h vs
    refine ⟨fun i d q => ?_, by show ((wipeD σ vs).set v none).length = ((wipe τ vs).set v none).length; rw [List.length_set, List.length_set]; exact ih.len⟩
    show ∃ w, ((wipe τ vs).set v none)[i]? = _ ∧ _
    have q' : ((wipeD σ vs).set v none)[i]? = some (some d) := q
    by_cases hv : v = i
    · subst hv
      by_cases hl : v < (wipeD σ vs).length
      · rw [List.getElem?_set_self hl] at q'; cases q'
      · rw [List.getElem?_eq_none (by rw [List.length_set]; omega)] at q'; cases q'
    · rw [List.getElem?_set_ne hv] at q' ⊢
      exact ih.get i d q'
theorem up_ro {K : PySem.W.Frag} {R H : Hp} {σ : DS} {τ : L2.St} (s : Same R H) (h : RS K R σ τ) : RO K R H R H (upS σ) τ := by
  have sh : ∀ (i : Nat) (z : Slot), (upS σ)[i]? = some (some z) → ∃ d, σ[i]? = some (some d) ∧ z = .sh d := fun i z q => by
    obtain ⟨a, h1, h2⟩ := get_map (f := fun o : Option D => o.map Slot.sh) rfl q
    exact ⟨a, h1, (Option.some.inj h2).symm⟩
  refine ⟨Ext.refl s, fun i d q => ?_, fun i d q => ?_, fun i j d e a q1 q2 => ?_, by show (σ.map _).length = _; rw [List.length_map]; exact h.len⟩
  · obtain ⟨d', h1, h2⟩ := sh i _ q
    cases h2
    exact h.get i d h1
  · obtain ⟨d', h1, h2⟩ := sh i _ q
    cases h2
  · obtain ⟨d', h1, h2⟩ := sh i _ q1
    cases h2
theorem wipe_wipe {τ τ2 : L2.St} {ix vs : List Nat} (h : Wp ix (wipe τ vs) τ2) (hv : ∀ i ∈ ix, i ∈ vs) : wipe τ2 vs = wipe τ vs := by
  rw [h vs hv]
  apply List.ext_getElem?
  intro j
  rw [wipe_get, wipe_length, wipe_get]
  split
  · rfl
  · rfl
variable {tg elt iter : Expr} {ifs : List Expr} {scope : Scope} {own : List (Str × Nat)} {pt : GF} {ix : List Nat} {it : DS → Res (List D)} {c : DS → Res Bool} {f : DS → Res D}
theorem lc_run {wi : TI} {g : TG} {tt : TT} {te : TE} {vs : List Nat} {K : PySem.W.Frag} {mg : Str → Option Value} {Ex : L2.St → XK}
    (i2 : ∀ (σ : DS) (τ : L2.St) (R H : Hp) (Rq : It → Hp → Prop), RS K R σ τ → Same R H → Post K mg (Ex τ) (fun R' (J : It) ds => Walk K J R' ds) R H Rq (it σ) → wi τ H Rq)
    (hv : ∀ i ∈ ix, i ∈ vs)
    (g2 : ∀ (R0 H0 : Hp) (d : D) (v : V) (σ σ' : SS) (τ : L2.St) (R H : Hp) (Q : L2.St → Hp → Prop), RO K R0 H0 R H σ τ → Rp K R v d → pt d σ = some σ' → (∀ R' H' τ', Same R R' → Wp ix τ τ' → RO K R0 H0 R' H' σ' τ' → Q τ' H') → g v τ H Q)
    (t2 : ∀ (σ : DS) (τ : L2.St) (R H : Hp) (Q : Bool → Hp → Prop), RS K R σ τ → Same R H → Post K mg (fun _ _ _ => False) rB R H Q (c σ) → tt τ H Q)
    (e2 : ∀ (σ : DS) (τ : L2.St) (R H : Hp) (Q : VK), RS K R σ τ → Same R H → Post K mg (fun _ _ _ => False) (rV K) R H Q (f σ) → te τ H Q)
    {σ : DS} {τ : L2.St} {R H : Hp} {Q : VK} (hs : RS K R σ τ) (s : Same R H) (h : PostN K mg (Ex τ) R H Q (eLc it pt vs c f σ)) : tLc wi g tt te vs τ H Q := by
  refine i2 σ τ R H _ hs s ?_
  unfold eLc at h
  cases z : it σ with
  | exc x => rw [z] at h; exact h
  | stuck => rw [z] at h; exact h
  | ok ds =>
    rw [z] at h
    have h0 : PostN K mg (Ex τ) R H Q (if ds.length ≤ sizeLine then (lcD pt c f (wipeD σ vs) ds).bind fun ys => .ok (.list ys) else .stuck) := h
    by_cases hl : ds.length ≤ sizeLine
    · rw [if_pos hl] at h0
      cases zz : lcD pt c f (wipeD σ vs) ds with
      | stuck => rw [zz] at h0; exact h0.elim
      | exc x =>
        exfalso
        clear h0 h z hl i2
        induction ds with
        | nil => cases zz
        | cons d ds ih =>
          unfold lcD at zz
          split at zz
          · cases zz
          · rename_i σ2 hp
            cases w : c σ2 with
            | ok b =>
              rw [w] at zz
              cases b with
              | true =>
                have zz' : ((f σ2).ne.bind fun y => (lcD pt c f (wipeD σ vs) ds).bind fun ys => .ok (y :: ys)) = Res.exc x := zz
                cases w2 : f σ2 with
                | ok y =>
                  rw [w2] at zz'
                  have zz2 : ((lcD pt c f (wipeD σ vs) ds).bind fun ys => .ok (y :: ys)) = Res.exc x := zz'
                  cases w3 : lcD pt c f (wipeD σ vs) ds with
                  | ok ys => rw [w3] at zz2; cases zz2
                  | exc x' => rw [w3] at zz2; cases zz2; exact ih w3
                  | stuck => rw [w3] at zz2; cases zz2
                | exc _ => rw [w2] at zz'; cases zz'
                | stuck => rw [w2] at zz'; cases zz'
              | false => exact ih zz
            | exc _ => rw [w] at zz; cases zz
            | stuck => rw [w] at zz; cases zz
      | ok zs =>
        rw [zz] at h0
        intro J R1 H1 x1 wk Dl hD
        have hs1 := hs.mono x1.rr
        have h1 : PostN K mg (Ex τ) R1 H1 Q (.ok (.list zs)) := PostN.step x1 h0
        have q0 : Same H1 (upd H1 Dl (.lst [])) := same_new hD
        refine ⟨fun i m H => m = ds.length - i ∧ i ≤ ds.length ∧ ∃ R acc ys ws, Ext R1 H1 R H ∧ R Dl = none ∧ H Dl = some (.lst acc) ∧ RpA K R acc ys ∧ acc.length ≤ i ∧ lcD pt c f (wipeD σ vs) (ds.drop i) = .ok ws ∧ zs = ys ++ ws,
          ⟨ds.length, by simp, Nat.zero_le _, R1, [], [], zs, Ext.allocH x1.sub hD, x1.sub.free hD, upd_same, .nil, Nat.le_refl _, by rw [List.drop_zero]; exact zz, rfl⟩, ?_⟩
        rintro i m H2 ⟨rfl, hi, R2, acc, ys, ws, x2, n2, hacc, ra, la, hlc, hz⟩
        obtain ⟨w1, w2⟩ := wk R2 H2 x2.rr x2.sub
        by_cases hlt : i < ds.length
        · have hd : ds[i]? = some ds[i] := List.getElem?_eq_getElem hlt
          obtain ⟨go, yl⟩ := w1 i _ hd
          rw [List.drop_eq_getElem_cons hlt] at hlc
          refine .inr ⟨go, fun H' => ∃ R acc ys ws, Ext R1 H1 R H' ∧ R Dl = none ∧ H' Dl = some (.lst acc) ∧ RpA K R acc ys ∧ acc.length ≤ i + 1 ∧ lcD pt c f (wipeD σ vs) (ds.drop (i + 1)) = .ok ws ∧ zs = ys ++ ws,
            fun H' ⟨R, acc, ys, ws, a, b, c', d', e', f', g'⟩ => ⟨ds.length - (i + 1), by omega, rfl, hlt, R, acc, ys, ws, a, b, c', d', e', f', g'⟩, fun x H3 y => ?_⟩
          obtain ⟨R3, x3, r3⟩ := yl x H3 y
          unfold lcD at hlc
          split at hlc
          · cases hlc
          · rename_i σ2 hp
            unfold patD at hp
            cases hp2 : pt ds[i] (upS (wipeD σ vs)) with
            | none => rw [hp2] at hp; cases hp
            | some σ3 =>
              rw [hp2] at hp
              obtain rfl : view σ3 = σ2 := Option.some.inj hp
              have hsw : RS K R3 (wipeD σ vs) (wipe τ vs) := (wipe_rs hs1 vs).mono (x2.rr.trans x3.rr)
              refine g2 R3 H3 ds[i] x (upS (wipeD σ vs)) σ3 (wipe τ vs) R3 H3 _ (up_ro x3.sub hsw) r3 hp2 fun R4 H4 τ4 s4 w4 J4 => ⟨wipe_wipe w4 hv, ?_⟩
              have x4 : Ext R3 H3 R4 H4 := J4.ext
              -- nothing is owned within
              have hs4 : RS K (full σ3 τ4 R4 H4) (view σ3) τ4 := J4.viewed
              have x4' : Ext R3 H3 (full σ3 τ4 R4 H4) H4 := J4.extF
              have keep : ∀ {Rn Hn : Hp}, Ext R2 H2 Rn Hn → Rn Dl = none ∧ Hn Dl = some (.lst acc) := fun {Rn Hn} e => by
                refine ⟨?_, e.hh _ _ hacc⟩
                cases q : Rn Dl with
                | none => rfl
                | some o =>
                  rcases e.new _ _ q with z | z | ⟨_, z⟩
                  · rw [n2] at z; cases z
                  · rw [hacc] at z; cases z
                  · have w1 := e.hh _ _ hacc
                    rw [e.sub _ _ q, z] at w1; cases w1
              cases w : c (view σ3) with
              | exc _ => rw [w] at hlc; cases hlc
              | stuck => rw [w] at hlc; cases hlc
              | ok b =>
                rw [w] at hlc
                refine t2 (view σ3) τ4 (full σ3 τ4 R4 H4) H4 _ hs4 x4'.sub ?_
                rw [w]
                intro b' R5 H5 x5 q5
                subst q5
                have x5' : Ext R2 H2 R5 H5 := (x3.trans x4').trans x5
                cases b' with
                | false =>
                  have hlc' : lcD pt c f (wipeD σ vs) (ds.drop (i + 1)) = .ok ws := hlc
                  rw [if_neg Bool.false_ne_true]
                  obtain ⟨k1, k2⟩ := keep x5'
                  exact ⟨R5, acc, ys, ws, x2.trans x5', k1, k2, ra.mono x5'.rr, by omega, hlc', hz⟩
                | true =>
                  rw [if_pos rfl]
                  have hlc' : ((f (view σ3)).ne.bind fun y => (lcD pt c f (wipeD σ vs) (ds.drop (i + 1))).bind fun ys => .ok (y :: ys)) = Res.ok ws := hlc
                  cases wf : f (view σ3) with
                  | exc _ => rw [wf] at hlc'; cases hlc'
                  | stuck => rw [wf] at hlc'; cases hlc'
                  | ok dy =>
                    rw [wf] at hlc'
                    have hlc2 : ((lcD pt c f (wipeD σ vs) (ds.drop (i + 1))).bind fun ys => .ok (dy :: ys)) = Res.ok ws := hlc'
                    cases wl : lcD pt c f (wipeD σ vs) (ds.drop (i + 1)) with
                    | exc _ => rw [wl] at hlc2; cases hlc2
                    | stuck => rw [wl] at hlc2; cases hlc2
                    | ok ws' =>
                      rw [wl] at hlc2
                      have ew : dy :: ws' = ws := by injection hlc2
                      refine e2 (view σ3) τ4 R5 H5 _ (hs4.mono x5.rr) x5.sub ?_
                      rw [wf]
                      intro v R6 H6 x6 q6
                      have x6' : Ext R2 H2 R6 H6 := x5'.trans x6
                      obtain ⟨k1, k2⟩ := keep x6'
                      refine ⟨acc, k2, by omega, R6, acc ++ [v], ys ++ [dy], ws', ?_, k1, upd_same, (ra.mono x6'.rr).append (.cons q6 .nil), by rw [List.length_append, List.length_singleton]; omega, rfl, ?_⟩
                      · have y6 := x2.trans x6'
                        refine ⟨y6.rr, fun b o e => ?_, fun b o e => ?_, y6.new⟩
                        · rw [upd_ne (fun z => by rw [z, k1] at e; cases e)]; exact y6.sub _ _ e
                        · rw [upd_ne (fun z => by rw [z, hD] at e; cases e)]; exact y6.hh _ _ e
                      · rw [hz, ← ew, List.append_assoc]; rfl
        · have e : i = ds.length := by omega
          subst e
          rw [List.drop_length] at hlc
          have : ws = [] := by injection hlc with e; exact e.symm
          subst this
          rw [List.append_nil] at hz
          refine .inl ⟨w2, h1 Dl R2 H2 x2 n2 hD ⟨acc, hacc, by rw [hz]; exact ra⟩⟩
    · rw [if_neg hl] at h0; exact h0.elim
def TF (K : PySem.W.Frag) (mg : Str → Option Value) (E : WX) (f : DS → Res D) : TE := fun τ H Q => ∃ σ R, RS K R σ τ ∧ Same R H ∧ Post K mg (xat E τ) (rV K) R H Q (f σ)
def TFT (K : PySem.W.Frag) (mg : Str → Option Value) (E : WX) (f : DS → Res Bool) : TT := fun τ H Q => ∃ σ R, RS K R σ τ ∧ Same R H ∧ Post K mg (xat E τ) rB R H Q (f σ)
def TFG (K : PySem.W.Frag) (ix : List Nat) (p : GF) : TG := fun v τ H Q => ∃ R0 H0 d σ σ' R, RO K R0 H0 R H σ τ ∧ Rp K R v d ∧ p d σ = some σ' ∧ ∀ R' H' τ', Same R R' → Wp ix τ τ' → RO K R0 H0 R' H' σ' τ' → Q τ' H'
theorem DE.pe {e : Expr} {f : DS → Res D} (h : DE X E e f) : PE X e (TF X.K X.mg E f) := by
  obtain ⟨t, h1, h2⟩ := h
  exact ⟨fun pins s σ H Q I ⟨σD, R, a, b, c⟩ => h1.run pins s σ H Q I (h2 σD σ R H Q a b c)⟩
theorem DTs.pts {es : List Expr} {f : DS → Res Bool} (h : DTs X E es f) : PTs X es (TFT X.K X.mg E f) := by
  obtain ⟨t, h1, h2⟩ := h
  exact ⟨fun pins s σ H Q I ⟨σD, R, a, b, c⟩ => h1.run pins s σ H Q I (h2 σD σ R H Q a b c)⟩
theorem DG.pg {tg : Expr} {ix : List Nat} {p : GF} (h : DG X tg ix p) : PG X tg (TFG X.K ix p) := by
  obtain ⟨t, h1, h2⟩ := h
  exact ⟨fun pins s σ H v u Q I r ⟨R0, H0, d, σD, σ', R, a, b, c, q⟩ => h1.run pins s σ H v u Q I r (h2 R0 H0 d v σD σ' σ R H Q a b c q)⟩
theorem dn_lc (hc : X.calm = true) (hN : X.N.Nodup) (hi : DI X E tg iter it) (ok : BlkOk X.N X.env.scope scope own) (hv : ∀ i ∈ ix, i ∈ own.map (·.2))
    (hg : ∀ (s : Shared) (H : Hp) (C : Addr) (cl : List (Str × Addr)) (fp : List Addr), DG (X.blk s H scope (compEnvC scope cl C X.env) fp) tg ix pt)
    (ht : ∀ (s : Shared) (H : Hp) (C : Addr) (cl : List (Str × Addr)) (fp : List Addr), DTs (X.blk s H scope (compEnvC scope cl C X.env) fp) E00 ifs c)
    (he : ∀ (s : Shared) (H : Hp) (C : Addr) (cl : List (Str × Addr)) (fp : List Addr), DE (X.blk s H scope (compEnvC scope cl C X.env) fp) E00 elt f)
    (hs : ∀ x, foldedSetIterable iter X.env x = pure x := by intro _; rfl) :
    DN X E (.ListComp elt [⟨tg, iter, ifs, 0⟩] scope pos) (eLc it pt (own.map (·.2)) c f) := by
  obtain ⟨wi, i1, i2⟩ := hi
  refine ⟨_, pe_lc (g := TFG X.K ix pt) (tt := TFT X.K X.mg E00 c) (te := TF X.K X.mg E00 f) hc hN i1 ok (fun s H C cl fp => (hg s H C cl fp).pg) (fun s H C cl fp => (ht s H C cl fp).pts) (fun s H C cl fp => (he s H C cl fp).pe) hs, fun σ τ R H Q hs s h => ?_⟩
  exact lc_run (K := X.K) (mg := X.mg) (Ex := fun τ => xat E τ) i2 hv (fun R0 H0 d v σ σ' τ R H Q a b c q => ⟨R0, H0, d, σ, σ', R, a, b, c, q⟩) (fun σ τ R H Q a b c => ⟨σ, R, a, b, c⟩) (fun σ τ R H Q a b c => ⟨σ, R, a, b, c⟩) hs s h
theorem ds_newLc (i : Nat) {y : Str} {py spos : Pos} (hc : X.calm = true) (hN : X.N.Nodup) (hy : X.N[i]? = some y) (hyl : X.env.scope.names.lookup y = some .local)
    (hsw : swapsWith (.ListComp elt [⟨tg, iter, ifs, 0⟩] scope pos) (some (.Name y py)) spos.line X.env = pure true) (hi : DI X E tg iter it) (ok : BlkOk X.N X.env.scope scope own) (hv : ∀ i ∈ ix, i ∈ own.map (·.2))
    (hg : ∀ (s : Shared) (H : Hp) (C : Addr) (cl : List (Str × Addr)) (fp : List Addr), DG (X.blk s H scope (compEnvC scope cl C X.env) fp) tg ix pt)
    (ht : ∀ (s : Shared) (H : Hp) (C : Addr) (cl : List (Str × Addr)) (fp : List Addr), DTs (X.blk s H scope (compEnvC scope cl C X.env) fp) E00 ifs c)
    (he : ∀ (s : Shared) (H : Hp) (C : Addr) (cl : List (Str × Addr)) (fp : List Addr), DE (X.blk s H scope (compEnvC scope cl C X.env) fp) E00 elt f)
    (hs : ∀ x, foldedSetIterable iter X.env x = pure x := by intro _; rfl) :
    DS1 X E (.Assign [.Name y py] (.ListComp elt [⟨tg, iter, ifs, 0⟩] scope pos) spos) (sNew i (eLc it pt (own.map (·.2)) c f)) := by
  obtain ⟨wi, i1, i2⟩ := hi
  refine ⟨_, ps_setLc (g := TFG X.K ix pt) (tt := TFT X.K X.mg E00 c) (te := TF X.K X.mg E00 f) hc hN hy hyl hsw i1 ok (fun s H C cl fp => (hg s H C cl fp).pg) (fun s H C cl fp => (ht s H C cl fp).pts) (fun s H C cl fp => (he s H C cl fp).pe) hs, fun R0 H0 σ τ R H Dn I q => ?_⟩
  refine lc_run (K := X.K) (mg := X.mg) (Ex := fun τ => xat E τ) i2 hv (fun R0 H0 d v σ σ' τ R H Q a b c q => ⟨R0, H0, d, σ, σ', R, a, b, c, q⟩) (fun σ τ R H Q a b c => ⟨σ, R, a, b, c⟩) (fun σ τ R H Q a b c => ⟨σ, R, a, b, c⟩) I.mask I.ext.sub ?_
  unfold sNew at q
  cases z : eLc it pt (own.map (·.2)) c f (mask σ) with
  | ok d =>
    rw [z] at q
    exact fun a R' H' x n1 n2 w => q R' H' _ ((I.step x).putO n1 (I.ext.hh.free n2) w (RO.notOwned I n2))
  | exc x => rw [z] at q; exact fun c dx H' s y => q c dx R H' τ (I.same s) (y.back I.ext.hh)
  | stuck => rw [z] at q; exact q
theorem ds_setLc (i : Nat) {y : Str} {py spos : Pos} (hc : X.calm = true) (hN : X.N.Nodup) (hy : X.N[i]? = some y) (hyl : X.env.scope.names.lookup y = some .local)
    (hsw : swapsWith (.ListComp elt [⟨tg, iter, ifs, 0⟩] scope pos) (some (.Name y py)) spos.line X.env = pure true) (hi : DI X E tg iter it) (ok : BlkOk X.N X.env.scope scope own) (hv : ∀ i ∈ ix, i ∈ own.map (·.2))
    (hg : ∀ (s : Shared) (H : Hp) (C : Addr) (cl : List (Str × Addr)) (fp : List Addr), DG (X.blk s H scope (compEnvC scope cl C X.env) fp) tg ix pt)
    (ht : ∀ (s : Shared) (H : Hp) (C : Addr) (cl : List (Str × Addr)) (fp : List Addr), DTs (X.blk s H scope (compEnvC scope cl C X.env) fp) E00 ifs c)
    (he : ∀ (s : Shared) (H : Hp) (C : Addr) (cl : List (Str × Addr)) (fp : List Addr), DE (X.blk s H scope (compEnvC scope cl C X.env) fp) E00 elt f)
    (hs : ∀ x, foldedSetIterable iter X.env x = pure x := by intro _; rfl) :
    DS1 X E (.Assign [.Name y py] (.ListComp elt [⟨tg, iter, ifs, 0⟩] scope pos) spos) (sSet i (eLc it pt (own.map (·.2)) c f)) := by
  obtain ⟨wi, i1, i2⟩ := hi
  refine ⟨_, ps_setLc (g := TFG X.K ix pt) (tt := TFT X.K X.mg E00 c) (te := TF X.K X.mg E00 f) hc hN hy hyl hsw i1 ok (fun s H C cl fp => (hg s H C cl fp).pg) (fun s H C cl fp => (ht s H C cl fp).pts) (fun s H C cl fp => (he s H C cl fp).pe) hs, fun R0 H0 σ τ R H Dn I q => ?_⟩
  refine lc_run (K := X.K) (mg := X.mg) (Ex := fun τ => xat E τ) i2 hv (fun R0 H0 d v σ σ' τ R H Q a b c q => ⟨R0, H0, d, σ, σ', R, a, b, c, q⟩) (fun σ τ R H Q a b c => ⟨σ, R, a, b, c⟩) (fun σ τ R H Q a b c => ⟨σ, R, a, b, c⟩) I.mask I.ext.sub (Post.toN ?_)
  exact post_mask I q fun d v R' H' J y z => z _ _ _ (J.put y)
def boolsOf : List D → Option (List Bool)
  | [] => some []
  | .bool b :: r => (boolsOf r).map (b :: ·)
  | _ :: _ => none
theorem bools_run {K : PySem.W.Frag} {R : Hp} : ∀ {vs : List V} {ds : List D} {bs : List Bool}, RpA K R vs ds → boolsOf ds = some bs → vs = bs.map V.bl
  | _, _, _, .nil, h => by cases h; rfl
  | _, _, bs, .cons (d := .bool b) (ds := ds) h r, q => by
    have q' : (boolsOf ds).map (b :: ·) = some bs := q
    cases z : boolsOf ds with
    | none => rw [z] at q'; cases q'
    | some cs =>
      rw [z] at q'
      cases q'
      cases h
      rw [bools_run r z]; rfl
  | _, _, _, .cons (d := .none) _ _, q => by cases q
  | _, _, _, .cons (d := .int _) _ _, q => by cases q
  | _, _, _, .cons (d := .str _) _ _, q => by cases q
  | _, _, _, .cons (d := .list _) _ _, q => by cases q
  | _, _, _, .cons (d := .tuple _) _ _, q => by cases q
  | _, _, _, .cons (d := .dict _) _ _, q => by cases q
def overB (o : List Bool → Bool) : List D → Res D
  | [.list ds] => match boolsOf ds with
    | some bs => .ok (.bool (o bs))
    | none => .stuck
  | _ => .stuck
def allD : List D → Res D := overB fun bs => bs.all id
def anyD : List D → Res D := overB fun bs => bs.any id
theorem overB_run {o : List Bool → Bool} {K : PySem.W.Frag} {mg : Str → Option Value} {Ex : XK} {R H : Hp} {Q : VK} {vs : List V} {ds : List D} (r : RpA K R vs ds) (s : Same R H) (h : Post K mg Ex (rV K) R H Q (overB o ds)) : ∃ a bs, vs = [.ref a] ∧ SqL K H a (bs.map V.bl) ∧ Q (.bl (o bs)) H := by
  match ds, r, h with
  | [.list es], r, h =>
    obtain ⟨v, rfl, q⟩ := one_inv r
    cases q with
    | lst g1 g2 =>
      simp only [overB] at h
      split at h
      · rename_i bs hb
        refine ⟨_, bs, rfl, ?_, Post.now s (Rp.bl _) h⟩
        rw [← bools_run g2 hb]
        exact (ls_same s g1).sq
      · exact h.elim
  | [], _, h => exact h.elim
  | [.none], _, h => exact h.elim
  | [.bool _], _, h => exact h.elim
  | [.int _], _, h => exact h.elim
  | [.str _], _, h => exact h.elim
  | [.tuple _], _, h => exact h.elim
  | [.dict _], _, h => exact h.elim
  | d1 :: _ :: _, _, h => cases d1 <;> exact h.elim
theorem cd_all (hc : X.calm = true) : CallD X (.builtin "all") allD := ⟨_, cr_all hc, fun vs ds R H Q Ex r s h => overB_run r s h⟩
theorem cd_any (hc : X.calm = true) : CallD X (.builtin "any") anyD := ⟨_, cr_any hc, fun vs ds R H Q Ex r s h => overB_run r s h⟩
end
end E3

namespace E3
open PySem PySem.Spec PyProof.Rows L2

def tyN : D → String
  | .none => "NoneType"
  | .bool _ => "bool"
  | .int _ => "int"
  | .str _ => "str"
  | .list _ => "list"
  | .tuple _ => "tuple"
  | .dict _ => "dict"
def isiT (T : String) (d : D) : Bool := match d with
  | .none => false
  | .bool _ => T == "bool" || T == "int"
  | .int _ => T == "int"
  | .str _ => T == "str"
  | .list _ => T == "list"
  | .tuple _ => T == "tuple"
  | .dict _ => T == "dict"
def TOk (T : String) : Prop := ∀ d : D, kitB (tyN d) T = some (isiT T d)
theorem tok_bool : TOk "bool" := fun d => by cases d <;> (show kitB _ _ = some _; simp only [tyN, isiT]; decide +kernel)
theorem tok_int : TOk "int" := fun d => by cases d <;> (show kitB _ _ = some _; simp only [tyN, isiT]; decide +kernel)
theorem tok_str : TOk "str" := fun d => by cases d <;> (show kitB _ _ = some _; simp only [tyN, isiT]; decide +kernel)
theorem tok_list : TOk "list" := fun d => by cases d <;> (show kitB _ _ = some _; simp only [tyN, isiT]; decide +kernel)
theorem tok_tuple : TOk "tuple" := fun d => by cases d <;> (show kitB _ _ = some _; simp only [tyN, isiT]; decide +kernel)
section
variable {X : Cx} {E : WX} {e : Expr} {f : DS → Res D} {pos p p2 : Pos} {T : String} {x : Str}
theorem ty_run {v : V} {d : D} {R H : Hp} (r : Rp X.K R v d) (s : Same R H) (nd : ∀ k, d ≠ .dict k) : TyX X.K H v (.type (tyN d)) := by
  cases r with
  | non => exact .base .non
  | bl b => exact .base (.bl b)
  | int i => exact .base (.int i)
  | str y => exact .base (.str y)
  | lst h _ =>
    rcases ls_same s h with (h | ⟨o, h⟩) | ⟨its, n, h, _⟩
    · exact .base (.lst h)
    · exact .base (.frz h)
    · exact .kList h rfl
  | tup h _ => exact .base (.tup (s _ _ h))
  | dT _ _ => exact absurd rfl (nd _)
  | ob _ _ => exact absurd rfl (nd _)
def isiD (T : String) : D → Res D
  | .dict _ => .stuck
  | d => .ok (.bool (isiT T d))
theorem de_isi (hT : TOk T) (hc : X.mg "isinstance" = none) (hg : Gl X "isinstance") (he : DE X E e f) (hgT : Gl X x) (hmT : X.mg x = none) (hbT : bootBuiltins x = some (.type T)) (hn : x ≠ "__name__" := by decide) (hdb : (x == ("__debug__" : Str)) = false := by decide)
    (h1 : starEach [e, .Name x p2] X.env = (false, eval e X.env) :: starEach [.Name x p2] X.env := by rfl) (h2 : starEach [.Name x p2] X.env = (false, eval (.Name x p2) X.env) :: starEach [] X.env := by rfl)
    (hpl : (backTo pos (starEach [.Name x p2] X.env)).any (·.1) = false := by rfl) : DE X E (.Call (.Name "isinstance" p) [e, .Name x p2] [] pos) (e1 (isiD T) f) := by
  obtain ⟨t, a1, a2⟩ := he
  refine ⟨_, pe_callB call_isi hg hc boot_isinstance (pa_cons a1 (pa_cons (pe_bltn (v := .ty T) hgT hmT hbT rfl hn hdb) pa_nil h2) h1) (by decide) (by decide) h1 hpl, fun σ τ R H Q hs s h => a2 σ τ R H _ hs s (post_bind s h fun d v R1 H1 x1 q1 k => ?_)⟩
  have nd : ∀ k', d ≠ .dict k' := fun k' z => by subst z; exact k.elim
  refine ⟨v, .ty T, _, _, isiT T d, rfl, .ty T, ty_run q1 x1.sub nd, kit_ty (hT d), ?_⟩
  have k' : Post X.K X.mg (xat E τ) (rV X.K) R1 H1 Q (.ok (.bool (isiT T d))) := by cases d <;> first | exact k | exact k.elim
  exact Post.now x1.sub (Rp.bl _) k'
end

def leD' : D → D → Bool := PySem.W.dataLe false (id : D → D)
def sortL (ds : List D) : List D := ds.mergeSort leD'
def isTupNE : D → Bool
  | .tuple (_ :: _) => true
  | _ => false
def noTup : D → Bool
  | .none => false
  | .tuple _ => false
  | _ => true
def sortOk (ds : List D) : Bool := (ds.all fun d => ds.all fun e => PySem.W.alike d e) && ((ds.all isTupNE) || (ds.all noTup)) && PyData.canLayAll0 ds && decide (PyData.depthAll ds ≤ 64) && decide (ds.length ≤ sizeLine)
theorem sortOk_alike {ds : List D} (h : sortOk ds = true) : PySem.W.AllAlike ds := by
  simp only [sortOk, Bool.and_eq_true, List.all_eq_true] at h
  exact fun d hd d' hd' => h.1.1.1.1 d hd d' hd'
theorem sortOk_able {ds : List D} (h : sortOk ds = true) : PySem.W.Sortable ds := by
  simp only [sortOk, Bool.and_eq_true, Bool.or_eq_true, List.all_eq_true] at h
  rcases h.1.1.1.2 with z | z
  · refine .inl fun d hd => ?_
    have := z d hd
    cases d with
    | tuple xs => cases xs with
      | nil => cases this
      | cons x r => exact ⟨x, r, rfl⟩
    | _ => cases this
  · refine .inr fun d hd => ?_
    have := z d hd
    cases d with
    | none => cases this
    | tuple xs => cases this
    | _ => exact ⟨(fun w => by cases w), fun xs w => by cases w⟩
theorem sortOk_can {ds : List D} (h : sortOk ds = true) : PyData.canLayAll0 ds = true := by
  simp only [sortOk, Bool.and_eq_true] at h
  exact h.1.1.2
theorem sortOk_depth {ds : List D} (h : sortOk ds = true) : ∀ d ∈ ds, d.depth ≤ 64 := fun d hd => by
  simp only [sortOk, Bool.and_eq_true, decide_eq_true_eq] at h
  exact Nat.le_trans (PyData.depth_le_depthAll ds d hd) h.1.2
theorem sortOk_len {ds : List D} (h : sortOk ds = true) : ds.length ≤ sizeLine := by
  simp only [sortOk, Bool.and_eq_true, decide_eq_true_eq] at h
  exact h.2
section
variable {X : Cx} {pins : List (Addr × Obj)} {τ : L2.St} {H : Hp} {s : Shared}
theorem each_zip {K : PySem.W.Frag} {H : Hp} : ∀ {xs : List V} {ds : List D} {us : List Value}, DpAll K H xs ds → Vals xs us → PySem.W.EachIs (fun u (b : V × D) => RelV b.1 u ∧ Dp K H b.1 b.2) us (xs.zip ds)
  | _, _, _, .nil, .nil => .nil
  | _, _, _, .cons h r, .cons q t => .cons ⟨q, h⟩ (each_zip r t)
theorem vals_each {K : PySem.W.Frag} {H : Hp} : ∀ {us : List Value} {bs : List (V × D)}, PySem.W.EachIs (fun u (b : V × D) => RelV b.1 u ∧ Dp K H b.1 b.2) us bs → Vals (bs.map (·.1)) us
  | _, _, .nil => .nil
  | _, _, .cons h t => .cons h.1 (vals_each t)
abbrev zsort (xs : List V) (ds : List D) : List (V × D) := (xs.zip ds).mergeSort (PySem.W.dataLe false (·.2))
theorem dp_len {K : PySem.W.Frag} {H : Hp} : ∀ {xs : List V} {ds : List D}, DpAll K H xs ds → xs.length = ds.length
  | _, _, .nil => rfl
  | _, _, .cons _ r => by rw [List.length_cons, List.length_cons, dp_len r]
theorem zip_snd {xs : List V} {ds : List D} (h : xs.length = ds.length) : (xs.zip ds).map (·.2) = ds := by
  rw [List.map_snd_zip]
  omega
theorem zsort_snd {xs : List V} {ds : List D} (h : xs.length = ds.length) : (zsort xs ds).map (·.2) = sortL ds := by
  show ((xs.zip ds).mergeSort (PySem.W.dataLe false (·.2))).map (·.2) = ds.mergeSort leD'
  exact (PySem.W.sort_maps (r := PySem.W.dataLe false fun p : V × D => p.2) (s := leD') (fun p : V × D => p.2) (fun a _ b _ => rfl)).trans (by rw [zip_snd h])
theorem zsort_rp {K : PySem.W.Frag} {R : Hp} {xs : List V} {ds : List D} (h : RpA K R xs ds) : RpA K R ((zsort xs ds).map (·.1)) (sortL ds) := by
  rw [← zsort_snd h.length]
  have all : ∀ b ∈ xs.zip ds, Rp K R b.1 b.2 := by
    induction ds generalizing xs with
    | nil => intro b hb; simp at hb
    | cons d r ih =>
      cases h with
      | cons h1 h2 =>
        intro b hb
        rw [List.zip_cons_cons] at hb
        rcases List.mem_cons.mp hb with e | hb
        · subst e; exact h1
        · exact ih h2 b hb
  have all2 : ∀ b ∈ zsort xs ds, Rp K R b.1 b.2 := fun b hb => all b ((List.mergeSort_perm _ _).mem_iff.mp hb)
  generalize zsort xs ds = l at all2
  induction l with
  | nil => exact .nil
  | cons b l ih => exact .cons (all2 b List.mem_cons_self) (ih fun c hc => all2 c (List.mem_cons_of_mem _ hc))
def rSortD (K : PySem.W.Frag) : List V → Hp → VK → Prop := fun vs H Q => ∃ (a : Addr) (xs : List V) (ds : List D), vs = [.ref a] ∧ SqL K H a xs ∧ DpAll K H xs ds ∧ sortOk ds = true ∧ ∀ p, H p = none → Q (.ref p) (upd H p (.lst ((zsort xs ds).map (·.1))))
theorem reads_each {xs : List V} {ds : List D} {us : List Value} (I : Inv X pins τ H s) (h : DpAll X.K H xs ds) (v : Vals xs us) : PySem.W.EachIs (fun v (b : V × D) => ∃ as, Reads s.heap v b.2 as) us (xs.zip ds) := by
  refine (each_zip h v).mono fun u b q => ?_
  obtain ⟨as, r⟩ := Dp.reads I b.2 b.1 u q.2 q.1
  exact ⟨as, r⟩
theorem zip_data {xs : List V} {ds : List D} (h : xs.length = ds.length) : (xs.zip ds).map (fun b : V × D => b.2) = ds := zip_snd h
theorem cr_sortD (hu : X.A.units + 70 < cLine) : CallR X (.builtin "sorted") (rSortD X.K) := fun pins s τ H vs us Q I r h => by
  obtain ⟨a, xs, ds, rfl, hl, hd, ok, q⟩ := h
  rw [Vals.ref1 r]
  obtain ⟨its, rv, pl, hz⟩ := I.list hl
  have len := dp_len hd
  refine PySem.W.sorted_data (bs := xs.zip ds) (enc := fun b : V × D => b.2) (R := fun u (b : V × D) => RelV b.1 u ∧ Dp X.K H b.1 b.2) pl.isList (each_zip hd rv) (reads_each I hd rv) (by rw [zip_data len]; exact sortOk_alike ok) (by rw [zip_data len]; exact sortOk_able ok) (by rw [List.length_zip]; omega) (fun b hb => ?_) fun out ho eo => ?_
  · have hm : b.2 ∈ ds := by
      have : b.2 ∈ (xs.zip ds).map (·.2) := List.mem_map.mpr ⟨b, hb, rfl⟩
      rwa [zip_snd len] at this
    have := sortOk_depth ok _ hm
    omega
  · obtain ⟨ep, he'⟩ := PyProof.Rows.sortedAll_at s.heap its out.toArray
    have hv : Vals ((zsort xs ds).map (·.1)) out := vals_each eo
    have hn : H (s.heap.objs.size + 1) = none := I.hok.fresh (Nat.le_succ _)
    have hlen : ((zsort xs ds).map (·.1)).length ≤ sizeLine := by
      rw [List.length_map, (List.mergeSort_perm _ _).length_eq, List.length_zip]; omega
    exact ⟨.ref _, upd H (s.heap.objs.size + 1) (.lst ((zsort xs ds).map (·.1))), I.laid (t' := s.toks) (fun _ _ => PyProof.Rows.sortedAll_old) (Nat.le_succ _) ⟨hlen, out, ep, hv, he'⟩, rfl, q _ hn⟩
def sortedD : List D → Res D
  | [.list ds] => if sortOk ds then .ok (.list (sortL ds)) else .stuck
  | _ => .stuck
theorem cn_sorted (hu : X.A.units + 70 < cLine) : CallN X (.builtin "sorted") sortedD := by
  refine ⟨_, cr_sortD hu, fun vs ds R H Q Ex r s h => ?_⟩
  match ds, r, h with
  | [.list es], r, h =>
    obtain ⟨v, rfl, q⟩ := one_inv r
    cases q with
    | lst g1 g2 =>
      simp only [sortedD] at h
      split at h
      · rename_i ok
        exact ⟨_, _, es, rfl, (ls_same s g1).sq, (g2.mono s).dp (sortOk_can ok), ok, fun p hp => new_own (zsort_rp g2) s hp h⟩
      · exact h.elim
  | [], _, h => exact h.elim
  | [.none], _, h => exact h.elim
  | [.bool _], _, h => exact h.elim
  | [.int _], _, h => exact h.elim
  | [.str _], _, h => exact h.elim
  | [.tuple _], _, h => exact h.elim
  | [.dict _], _, h => exact h.elim
  | d1 :: _ :: _, _, h => cases d1 <;> exact h.elim

def encK (k : List Int) : D := .tuple (k.map .int)
abbrev encL (q : Addr × List Int) : D := encK q.2
def rSortS (K : PySem.W.Frag) (P : Program) (w : World) : List V → Hp → VK → Prop := fun vs H Q => ∃ (a : Addr) (L : List (Addr × List Int)), vs = [V.ref a] ∧ H a = some (SetTO P w a L) ∧ (∀ p ∈ L, SqT K H p.1 (p.2.map V.int)) ∧ (∀ p ∈ L, p.2 ≠ []) ∧
  ∀ (L1 : List (Addr × List Int)) (p : Addr), L1.Perm L → (L1.map (·.2)).Nodup → H p = none → Q (.ref p) (upd H p (.lst ((L1.mergeSort (PySem.W.dataLe false encL)).map fun q => V.ref q.1)))
theorem alike_encK (a b : List Int) : PySem.W.alike (encK a) (encK b) = true := by
  show PySem.W.alike (.tuple _) (.tuple _) = true
  simp only [PySem.W.alike]
  exact PySem.W.alike_ints a b
theorem depth_encK (a : List Int) : (encK a).depth ≤ 1 := by
  show (PyData.tuple _).depth ≤ 1
  simp only [PyData.depth]
  rw [PySem.W.depth_ints]
  omega
theorem perm_map_ex {α β : Type} (f : α → β) {vs l2 : List β} (h : vs.Perm l2) : ∀ {L : List α}, l2 = L.map f → ∃ L1 : List α, L1.Perm L ∧ vs = L1.map f := by
  induction h with
  | nil =>
    intro L e
    cases L with
    | nil => exact ⟨[], .refl _, rfl⟩
    | cons _ _ => cases e
  | cons x _ ih =>
    intro L e
    cases L with
    | nil => cases e
    | cons y L =>
      rw [List.map_cons] at e
      injection e with e1 e2
      obtain ⟨L1, p1, q1⟩ := ih e2
      exact ⟨y :: L1, p1.cons y, by rw [List.map_cons, ← e1, ← q1]⟩
  | swap x y l =>
    intro L e
    cases L with
    | nil => cases e
    | cons a L => cases L with
      | nil => cases e
      | cons b L =>
        rw [List.map_cons, List.map_cons] at e
        injection e with e1 e2
        injection e2 with e2 e3
        exact ⟨b :: a :: L, List.Perm.swap _ _ _, by rw [List.map_cons, List.map_cons, e1, e2, e3]⟩
  | trans _ _ ih1 ih2 =>
    intro L e
    obtain ⟨L1, p1, q1⟩ := ih2 e
    obtain ⟨L2, p2, q2⟩ := ih1 q1
    exact ⟨L2, p2.trans p1, q2⟩
theorem reads_ints {h : Heap} : ∀ {us : List Value} {k : List Int}, IntsAre us k → ReadsAll h us (k.map .int) []
  | _, _, .nil => .nil
  | _, _, .cons n t r => .cons (as := []) (bs := []) (.int n t) (reads_ints r)
theorem reads_isT {P : Program} {w : World} {h : Heap} {k : List Int} {b : Addr} (x : IsT P w h k b) : Reads h (.ref b) (encK k) [] := by
  obtain ⟨o, items, n, ho, hc, hd, hi⟩ := x
  exact .tuple ho hc hd (reads_ints (ints_of_items hi))
theorem each_L {R : Value → Addr × List Int → Prop} : ∀ (L : List (Addr × List Int)), (∀ q ∈ L, R (.ref q.1) q) → PySem.W.EachIs R (L.map fun q => Value.ref q.1) L
  | [], _ => .nil
  | q :: L, h => .cons (h q List.mem_cons_self) (each_L L fun r hr => h r (List.mem_cons_of_mem _ hr))
theorem each_refs : ∀ {us : List Value} {L : List (Addr × List Int)}, PySem.W.EachIs (fun u q => u = Value.ref q.1) us L → us = L.map fun q => Value.ref q.1
  | _, _, .nil => rfl
  | _, _, .cons h t => by rw [List.map_cons, ← h, each_refs t]
theorem cr_sortS (hc : X.calm = true) (hu : X.A.units + 70 < cLine) : CallR X (.builtin "sorted") (rSortS X.K X.prog X.w) := fun pins s τ H vs us Q I r h => by
  obtain ⟨a, L, rfl, ha, hk, hne, q⟩ := h
  have R0 : SetT0 X.prog X.w s.heap a L := (I.hok a _ ha).1
  obtain ⟨es, ep, t, R⟩ := R0.full fun p hp => Inv.isT I (hk p hp)
  rw [Vals.ref1 r]
  have hh := I.ok.hd hc
  obtain ⟨o, ho, hex, hd⟩ := R.ob
  have hsz := R.size
  have hfew := R.few
  refine Calls.call_function_entry kind_sorted plain_sorted entry_sorted (args_sorted1 _) ?_
  unfold Builtin.«sorted»
  refine wpAny_bind (m := checkCount "sorted" 1 1 _) (wpAny_pure ?_)
  refine wpAny_bind (collect_set (A := X.A.in1) hh ⟨o, ho, hex.1, hd⟩ R.fits (by unfold scanBound; omega) R.tab.ris R.led fun s1 vs k1 hz g1 o1 pm => ?_)
  have hes : es.toList.map (·.2) = L.map fun q => Value.ref q.1 := by
    rw [R.rows]; unfold rowsOf; rw [List.map_map]; rfl
  obtain ⟨L1, p1, e1⟩ := perm_map_ex (fun q : Addr × List Int => Value.ref q.1) pm hes
  subst e1
  generalize hvs : L1.map (fun q : Addr × List Int => Value.ref q.1) = vs
  have len1 : L1.length = L.length := p1.length_eq
  have J1 : Inv X pins τ H s1 := Inv.call' I o1 (ch := []) (Un.kept k1) (I.hok.kept k1) (by rw [g1]; exact I.bare) (fun _ z => nomatch z)
  have hvl : vs.length = L1.length := by rw [← hvs, List.length_map]
  refine wpAny_bind (wpAny_newList ?_ (by rw [sizeLine_eq]; omega))
  have hoL : (s1.heap.push (seqObj "list" vs.toArray 0)).get? s1.heap.objs.size = some (seqObj "list" vs.toArray 0) := Heap.get?_push_size _ rfl
  have tk : ∀ q ∈ L1, IsT X.prog X.w (s1.heap.push (seqObj "list" vs.toArray 0)) q.2 q.1 := fun q hq =>
    isT_keep (R.tup q (p1.mem_iff.mp hq)) fun b u e => Heap.get?_push_of_some _ (k1 b u e)
  have al : PySem.W.AllAlike (L1.map encL) := PySem.W.AllAlike.of fun b b' => alike_encK _ _
  refine wpAny_bind (wpAny_holding (PySem.W.list_sort_data (s := { s1 with heap := s1.heap.push (seqObj "list" vs.toArray 0) }) (vs := vs) (bs := L1) (enc := encL) (R := fun u q => u = Value.ref q.1) hoL (hvs ▸ each_L L1 fun _ _ => rfl)
    (hvs ▸ each_L L1 fun q hq => ⟨[], reads_isT (hvs ▸ tk q hq), by simp⟩) al (.inl fun d hd => ?_) (by rw [sizeLine_eq]; omega) (fun b hb => ?_) fun out ho eo => ?_))
  · obtain ⟨q, hq, rfl⟩ := List.mem_map.mp hd
    have hq0 := hne q (p1.mem_iff.mp hq)
    show ∃ x r, PyData.tuple (q.2.map .int) = .tuple (x :: r)
    cases e : q.2 with
    | nil => exact absurd e hq0
    | cons n r => exact ⟨_, _, rfl⟩
  · have := depth_encK b.2
    show X.A.in1.units + 1 + (encK b.2).depth < cLine
    have e : X.A.in1.units = X.A.units + 1 := rfl
    omega
  · obtain ⟨c, hc'⟩ := sortedHeap_at (vs := vs) (out := out.toArray) hoL
    have eo' := each_refs eo
    have hn : H s1.heap.objs.size = none := J1.hok.fresh (Nat.le_refl _)
    have k2 : ∀ b u, s1.heap.get? b = some u → (sortedHeap (s1.heap.push (seqObj "list" vs.toArray 0)) s1.heap.objs.size vs out.toArray).get? b = some u := fun b u e => by
      have hlt := Heap.lt_size e
      rw [sortedHeap_old (Nat.ne_of_lt hlt) (by rw [size_push']; exact Nat.lt_succ_of_lt hlt)]
      exact Heap.get?_push_of_some _ e
    have nd : (L1.map (·.2)).Nodup := (p1.map (·.2)).nodup_iff.mpr R.nd
    refine wpAny_pure ⟨_, rfl, .ref s1.heap.objs.size, _, ?_, rfl, q L1 s1.heap.objs.size p1 nd hn⟩
    refine J1.laid (t' := s1.toks) k2 (Nat.le_refl _) ⟨?_, out, c, ?_, hc'⟩
    · rw [List.length_map, (List.mergeSort_perm _ _).length_eq, len1, sizeLine_eq]; omega
    · rw [eo']; exact vals_of_refs _
end
end E3

namespace E3
open PySem PySem.Spec PyProof.Rows L2

theorem le_total_LI (a b : List Int) : (decide (a ≤ b) || decide (b ≤ a)) = true := by
  rcases List.le_total a b with h | h
  · simp [h]
  · simp [h]
theorem le_trans_LI (a b c : List Int) (h : decide (a ≤ b) = true) (k : decide (b ≤ c) = true) : decide (a ≤ c) = true :=
  decide_eq_true (List.le_trans (of_decide_eq_true h) (of_decide_eq_true k))
def riseK (ks : List (List Int)) : List (List Int) := ks.mergeSort fun a b => decide (a ≤ b)
theorem riseK_pair (ks : List (List Int)) : (riseK ks).Pairwise (fun a b => a ≤ b) :=
  (List.pairwise_mergeSort le_trans_LI le_total_LI ks).imp fun h => of_decide_eq_true h
theorem riseK_perm (ks : List (List Int)) : (riseK ks).Perm ks := List.mergeSort_perm _ _
theorem riseK_uniq {a b : List (List Int)} (h : a.Perm b) : riseK a = riseK b :=
  List.Perm.eq_of_pairwise (le := fun x y : List Int => x ≤ y) (fun x y _ _ h1 h2 => List.le_antisymm h1 h2) (riseK_pair a) (riseK_pair b) ((riseK_perm a).trans (h.trans (riseK_perm b).symm))
theorem leD_enc (a b : List Int) : leD' (encK a) (encK b) = decide (a ≤ b) := by
  have h := congrFun (congrFun (PySem.W.dataLe_rows (fun x : List Int => x)) a) b
  rw [← h]
  show (!PySem.W.dataLt (.tuple _) (.tuple _)) = (!PySem.W.dataLt (.list _) (.list _))
  rw [PySem.W.dataLt_list, PySem.W.dataLt_tuple]
theorem sortL_enc (ks : List (List Int)) : sortL (ks.map encK) = (riseK ks).map encK :=
  (PySem.W.sort_maps (r := fun a b : List Int => decide (a ≤ b)) (s := leD') encK (fun a _ b _ => (leD_enc a b).symm)).symm
def keysOf : List D → Option (List (List Int))
  | [] => some []
  | d :: r => match keyOf d, keysOf r with
    | some k, some ks => some (k :: ks)
    | _, _ => none
def dd : List (List Int) → List (List Int)
  | [] => []
  | a :: r => if a ∈ dd r then dd r else a :: dd r
theorem mem_dd {x : List Int} : ∀ {l : List (List Int)}, x ∈ dd l ↔ x ∈ l
  | [] => Iff.rfl
  | a :: r => by
    unfold dd
    by_cases h : a ∈ dd r
    · rw [if_pos h]
      constructor
      · intro z; exact List.mem_cons_of_mem _ (mem_dd.mp z)
      · intro z
        rcases List.mem_cons.mp z with e | z
        · rw [e]; exact h
        · exact mem_dd.mpr z
    · rw [if_neg h, List.mem_cons, List.mem_cons, mem_dd]
theorem nodup_dd : ∀ l : List (List Int), (dd l).Nodup
  | [] => List.nodup_nil
  | a :: r => by
    unfold dd
    by_cases h : a ∈ dd r
    · rw [if_pos h]; exact nodup_dd r
    · rw [if_neg h]; exact List.nodup_cons.mpr ⟨h, nodup_dd r⟩
def setMost : Nat := 63
def sortSetD : D → Res D
  | .list ds => match keysOf ds with
    | some ks => if ks.length ≤ setMost ∧ (ks.all fun k => !k.isEmpty) = true then .ok (.list ((riseK (dd ks)).map encK)) else .stuck
    | none => .stuck
  | _ => .stuck
theorem keys_run {K : PySem.W.Frag} {R : Hp} : ∀ {xs : List V} {ds : List D} {ks : List (List Int)}, RpA K R xs ds → keysOf ds = some ks → ∃ L : List (Addr × List Int), xs = L.map (fun p => V.ref p.1) ∧ ks = L.map (·.2) ∧ ∀ p ∈ L, R p.1 = some (.tup (p.2.map V.int))
  | _, _, _, .nil, h => by cases h; exact ⟨[], rfl, rfl, fun p hp => by cases hp⟩
  | _, d :: ds, ks, .cons h r, q => by
    unfold keysOf at q
    split at q
    · rename_i k ks' hk hks
      cases q
      obtain ⟨L, e1, e2, e3⟩ := keys_run r hks
      have ed := keyOf_inv hk
      subst ed
      cases h with
      | tup h1 h2 =>
        rename_i a xs
        refine ⟨(a, k) :: L, by rw [List.map_cons, ← e1], by rw [List.map_cons, ← e2], fun p hp => ?_⟩
        rcases List.mem_cons.mp hp with e | hp
        · subst e
          show R a = some (.tup (k.map V.int))
          rw [h1, h2.ints_inv]
        · exact e3 p hp
    · cases q
section
variable {X : Cx} {E : WX} {e : Expr} {f : DS → Res D} {pos p p2 pos2 : Pos}
theorem refsL {L : List (Addr × List Int)} {R : Hp} {K : PySem.W.Frag} (h : ∀ p ∈ L, R p.1 = some (.tup (p.2.map V.int))) : RpA K R (L.map fun q => V.ref q.1) (L.map encL) := by
  induction L with
  | nil => exact .nil
  | cons q L ih => exact .cons (.tup (h q List.mem_cons_self) (RpA.ints _)) (ih fun p hp => h p (List.mem_cons_of_mem _ hp))
theorem dn_sortedSet (hc : X.calm = true) (hu : X.A.units + 70 < cLine) (hg : Gl X "sorted") (hm : X.mg "sorted" = none) (hb : bootBuiltins "sorted" = some (.builtin "sorted")) (hg2 : Gl X "set") (hm2 : X.mg "set" = none) (hb2 : bootBuiltins "set" = some (.type "set")) (he : DE X E e f)
    (h1 : starEach [e] X.env = (false, eval e X.env) :: starEach [] X.env := by rfl) (hp1 : (backTo pos2 (starEach [] X.env)).any (·.1) = false := by rfl)
    (h2 : starEach [.Call (.Name "set" p2) [e] [] pos2] X.env = (false, eval (.Call (.Name "set" p2) [e] [] pos2) X.env) :: starEach [] X.env := by rfl) (hp2 : (backTo pos (starEach [] X.env)).any (·.1) = false := by rfl) :
    DN X E (.Call (.Name "sorted" p) [.Call (.Name "set" p2) [e] [] pos2] [] pos) (e1 sortSetD f) := by
  obtain ⟨t, a1, a2⟩ := he
  refine ⟨_, pe_callB (cr_sortS hc hu) hg hm hb (pa_cons (pe_callTy (cr_setOfT hc (by omega)) hg2 hm2 hb2 (pa_cons a1 pa_nil h1) (by decide) (by decide) h1 hp1) pa_nil h2) (by decide) (by decide) h2 hp2, fun σ τ R H Q hs s h => a2 σ τ R H _ hs s (post_bindN h fun d v R1 H1 x1 q1 k => ?_)⟩
  cases q1 with
  | lst g1 g2 =>
    rename_i l xs ds
    simp only [sortSetD] at k
    split at k
    · rename_i ks hk
      split at k
      · rename_i hl
        obtain ⟨L0, e1, e2, e3⟩ := keys_run g2 hk
        subst e1
        have hl1 : L0.length ≤ 63 := by
          have := hl.1
          rw [e2, List.length_map] at this
          exact this
        have s1 := x1.sub
        refine ⟨l, L0, rfl, (ls_same s1 g1).sq, fun p hp => SqT.of (s1 _ _ (e3 p hp)), by omega, fun a L ha sub cov => ?_⟩
        have s2 : Same H1 (upd H1 a (SetTO X.prog X.w a L)) := same_new ha
        have e4 : ∀ p ∈ L, R1 p.1 = some (.tup (p.2.map V.int)) := fun p hp => e3 p (sub p hp)
        refine ⟨a, L, rfl, upd_same, fun p hp => SqT.of (s2 _ _ (s1 _ _ (e4 p hp))), fun p hp => ?_, fun L1 q pm nd hq => ?_⟩
        · have hm : p.2 ∈ ks := by rw [e2]; exact List.mem_map.mpr ⟨p, sub p hp, rfl⟩
          have := List.all_eq_true.mp hl.2 _ hm
          intro z
          rw [z] at this
          cases this
        · have keq : (L1.mergeSort (PySem.W.dataLe false encL)).map encL = (riseK (dd ks)).map encK := by
            have m1 : (L1.mergeSort (PySem.W.dataLe false encL)).map encL = sortL (L1.map encL) := PySem.W.sort_maps (r := PySem.W.dataLe false encL) (s := leD') encL (fun a _ b _ => rfl)
            have m2 : L1.map encL = (L1.map (·.2)).map encK := by rw [List.map_map]; rfl
            rw [m1, m2, sortL_enc]
            congr 1
            refine riseK_uniq ((List.perm_ext_iff_of_nodup nd (nodup_dd _)).mpr fun x => ?_)
            rw [mem_dd]
            constructor
            · intro hx
              obtain ⟨r, hr, rfl⟩ := List.mem_map.mp hx
              rw [e2]
              exact List.mem_map.mpr ⟨r, sub r (pm.mem_iff.mp hr), rfl⟩
            · intro hx
              rw [e2] at hx
              obtain ⟨r, hr, rfl⟩ := List.mem_map.mp hx
              obtain ⟨r2, hr2, e⟩ := List.mem_map.mp (cov r hr)
              exact List.mem_map.mpr ⟨r2, pm.mem_iff.mpr hr2, e⟩
          have e5 : ∀ r ∈ L1.mergeSort (PySem.W.dataLe false encL), R1 r.1 = some (.tup (r.2.map V.int)) := fun r hr => e4 r (pm.mem_iff.mp ((List.mergeSort_perm _ _).mem_iff.mp hr))
          have ra : RpA X.K R1 ((L1.mergeSort (PySem.W.dataLe false encL)).map fun q => V.ref q.1) ((riseK (dd ks)).map encK) := by
            rw [← keq]
            exact refsL e5
          refine k q R1 _ ⟨Same.refl _, (s1.trans s2).trans (same_new hq), s2.trans (same_new hq), fun _ _ z => .inl z⟩ (s1.free (s2.free hq)) (s2.free hq) ⟨_, upd_same, ra⟩
      · exact k.elim
    · exact k.elim
  | _ => exact k.elim
end

section
variable {X : Cx} {E : WX} {e e' a b : Expr} {f g : DS → Res D} {pos p tpos : Pos} {elts : List Expr} {kk : Nat} {ga : DS → Res (List D)}
def numbered : Nat → List D → List D
  | _, [] => []
  | n, d :: ds => .tuple [.int n, d] :: numbered (n + 1) ds
theorem numbered_get : ∀ (ds : List D) (n i : Nat) (d : D), (numbered n ds)[i]? = some d → ∃ y, ds[i]? = some y ∧ d = .tuple [.int ((n + i : Nat) : Int), y]
  | [], _, _, _, h => by simp [numbered] at h
  | y :: ds, n, 0, d, h => by
    have : d = .tuple [.int n, y] := by simpa [numbered] using h.symm
    exact ⟨y, rfl, this⟩
  | y :: ds, n, i + 1, d, h => by
    obtain ⟨z, h1, h2⟩ := numbered_get ds (n + 1) i d (by simpa [numbered] using h)
    exact ⟨z, by simpa using h1, by rw [h2]; congr 3; omega⟩
theorem numbered_len : ∀ (ds : List D) (n : Nat), (numbered n ds).length = ds.length
  | [], _ => rfl
  | _ :: ds, n => by simp [numbered, numbered_len ds (n + 1)]
def enumD : List D → Res (List D)
  | [.list ds] => .ok (numbered 0 ds)
  | _ => .stuck
theorem new_pair {K : PySem.W.Frag} {R H : Hp} {T : Addr} {x y : V} {d e : D} (s : Same R H) (n : H T = none) (r1 : Rp K R x d) (r2 : Rp K R y e) : ∃ R'', Ext R H R'' (upd H T (.tup [x, y])) ∧ Rp K R'' (.ref T) (.tuple [d, e]) :=
  ⟨_, Ext.alloc s n, .tup upd_same (.cons (r1.mono (same_new (s.free n))) (.cons (r2.mono (same_new (s.free n))) .nil))⟩
theorem walk_enum {K : PySem.W.Frag} {R : Hp} {a : Addr} {xs : List V} {ds : List D} (h : LsQ K R a xs) (q : RpA K R xs ds) : Walk K (Ite K a) R (numbered 0 ds) := fun R' H' s1 s2 => by
  have hH : SqL K H' a xs := (ls_same s2 (ls_same s1 h)).sq
  refine ⟨fun i d hd => ?_, xs, hH, by rw [numbered_len, q.length]; exact Nat.le_refl _⟩
  obtain ⟨y, hy, rfl⟩ := numbered_get ds 0 i d hd
  obtain ⟨v, z1, z2⟩ := q.get hy
  refine ⟨⟨xs, v, hH, z1⟩, fun x H'' w => ?_⟩
  obtain ⟨T, x', rfl, nT, rfl, w⟩ := w
  have e := w xs hH
  rw [z1] at e; cases e
  rw [Nat.zero_add]
  exact new_pair s2 nT (.int _) (z2.mono s1)
theorem di_enum (hg : Gl X "enumerate") (hm : X.mg "enumerate" = none) (ha : DA X E [e] ga) (hs : starEach [e] X.env = [(false, eval e X.env)] := by rfl) :
    DI X E (.Tuple elts kk tpos) (.Call (.Name "enumerate" p) [e] [] pos) (fun σ => (ga σ).bind enumD) := by
  obtain ⟨t, a1, a2⟩ := ha
  refine ⟨_, pi_enum hg hm a1 hs, fun σ τ R H Rq hs s q => a2 σ τ R H _ hs s (post_bind s q fun d v R1 H1 x1 q1 h1 => ?_)⟩
  match d, q1, h1 with
  | [.list ds], q1, h1 =>
    obtain ⟨v, rfl, r⟩ := one_inv q1
    cases r with
    | lst g1 g2 => exact ⟨_, _, rfl, (ls_same x1.sub g1).sq, Post.now x1.sub (walk_enum g1 g2) h1⟩
  | [], _, h1 => exact h1.elim
  | [.none], _, h1 => exact h1.elim
  | [.bool _], _, h1 => exact h1.elim
  | [.int _], _, h1 => exact h1.elim
  | [.str _], _, h1 => exact h1.elim
  | [.tuple _], _, h1 => exact h1.elim
  | [.dict _], _, h1 => exact h1.elim
  | d1 :: _ :: _, _, h1 => cases d1 <;> exact h1.elim
def zipD : List D → List D → List D
  | x :: xs, y :: ys => .tuple [x, y] :: zipD xs ys
  | _, _ => []
theorem zipD_get : ∀ (xs ys : List D) (i : Nat) (d : D), (zipD xs ys)[i]? = some d → ∃ x y, xs[i]? = some x ∧ ys[i]? = some y ∧ d = .tuple [x, y]
  | [], _, _, _, h => by simp [zipD] at h
  | _ :: _, [], _, _, h => by simp [zipD] at h
  | x :: xs, y :: ys, 0, d, h => ⟨x, y, rfl, rfl, by simpa [zipD] using h.symm⟩
  | x :: xs, y :: ys, i + 1, d, h => by
    obtain ⟨u, v, h1, h2, h3⟩ := zipD_get xs ys i d (by simpa [zipD] using h)
    exact ⟨u, v, by simpa using h1, by simpa using h2, h3⟩
theorem zipD_len : ∀ (xs ys : List D), (zipD xs ys).length = min xs.length ys.length
  | [], _ => by simp [zipD]
  | _ :: _, [] => by simp [zipD]
  | _ :: xs, _ :: ys => by simp only [zipD, List.length_cons, zipD_len xs ys]; omega
def zipR : List D → Res (List D)
  | [.list xs, .list ys] => .ok (zipD xs ys)
  | [.tuple xs, .tuple ys] => .ok (zipD xs ys)
  | _ => .stuck
theorem walk_zip {K : PySem.W.Frag} {R : Hp} {a b : Addr} {xs ys : List V} {ds es : List D} (h : LsQ K R a xs) (q : RpA K R xs ds) (h' : LsQ K R b ys) (q' : RpA K R ys es) : Walk K (Itz K a b) R (zipD ds es) := fun R' H' s1 s2 => by
  have hA : SqL K H' a xs := (ls_same s2 (ls_same s1 h)).sq
  have hB : SqL K H' b ys := (ls_same s2 (ls_same s1 h')).sq
  refine ⟨fun i d hd => ?_, xs, ys, hA, hB, by rw [zipD_len, q.length, q'.length]; omega⟩
  obtain ⟨x, y, hx, hy, rfl⟩ := zipD_get ds es i d hd
  obtain ⟨v, z1, z2⟩ := q.get hx
  obtain ⟨u, z3, z4⟩ := q'.get hy
  refine ⟨⟨xs, ys, v, u, hA, hB, z1, z3⟩, fun w H'' k => ?_⟩
  obtain ⟨T, x', y', rfl, nT, rfl, k1, k2⟩ := k
  have e1 := k1 xs hA
  have e2 := k2 ys hB
  rw [z1] at e1; cases e1
  rw [z3] at e2; cases e2
  exact new_pair s2 nT (z2.mono s1) (z4.mono s1)
theorem walk_zipT {K : PySem.W.Frag} {R : Hp} {a b : Addr} {xs ys : List V} {ds es : List D} (h : R a = some (.tup xs)) (q : RpA K R xs ds) (h' : R b = some (.tup ys)) (q' : RpA K R ys es) : Walk K (RZ.ItzT K a b) R (zipD ds es) := fun R' H' s1 s2 => by
  have hA : SqT K H' a xs := SqT.of (s2 _ _ (s1 _ _ h))
  have hB : SqT K H' b ys := SqT.of (s2 _ _ (s1 _ _ h'))
  refine ⟨fun i d hd => ?_, xs, ys, hA, hB, by rw [zipD_len, q.length, q'.length]; omega⟩
  obtain ⟨x, y, hx, hy, rfl⟩ := zipD_get ds es i d hd
  obtain ⟨v, z1, z2⟩ := q.get hx
  obtain ⟨u, z3, z4⟩ := q'.get hy
  refine ⟨⟨xs, ys, v, u, hA, hB, z1, z3⟩, fun w H'' k => ?_⟩
  obtain ⟨T, x', y', rfl, nT, rfl, k1, k2⟩ := k
  have e1 := k1 xs hA
  have e2 := k2 ys hB
  rw [z1] at e1; cases e1
  rw [z3] at e2; cases e2
  exact new_pair s2 nT (z2.mono s1) (z4.mono s1)
theorem di_zip (hg : Gl X "zip") (hm : X.mg "zip" = none) (ha : DA X E [e, e'] ga) (hs : starEach [e, e'] X.env = (false, eval e X.env) :: starEach [e'] X.env := by rfl) (hpl : (backTo pos (starEach [e'] X.env)).any (·.1) = false := by rfl) :
    DI X E (.Tuple elts kk tpos) (.Call (.Name "zip" p) [e, e'] [] pos) (fun σ => (ga σ).bind zipR) := by
  obtain ⟨t, a1, a2⟩ := ha
  refine ⟨_, RZ.pi_zipA hg hm a1 hs hpl, fun σ τ R H Rq hs s q => a2 σ τ R H _ hs s (post_bind s q fun d v R1 H1 x1 q1 h1 => ?_)⟩
  match d, q1, h1 with
  | [.list xs, .list ys], q1, h1 =>
    obtain ⟨v, w, rfl, r, r'⟩ := two_inv q1
    cases r with
    | lst g1 g2 => cases r' with
      | lst g3 g4 => exact ⟨_, _, _, _, rfl, .inl ⟨(ls_same x1.sub g1).sq, (ls_same x1.sub g3).sq, Post.now x1.sub (walk_zip g1 g2 g3 g4) h1⟩⟩
  | [.tuple xs, .tuple ys], q1, h1 =>
    obtain ⟨v, w, rfl, r, r'⟩ := two_inv q1
    cases r with
    | tup g1 g2 => cases r' with
      | tup g3 g4 => exact ⟨_, _, _, _, rfl, .inr ⟨SqT.of (x1.sub _ _ g1), SqT.of (x1.sub _ _ g3), Post.now x1.sub (walk_zipT g1 g2 g3 g4) h1⟩⟩
  | [], _, h1 => exact h1.elim
  | [d1], _, h1 => cases d1 <;> exact h1.elim
  | d1 :: d2 :: d3 :: _, _, h1 => cases d1 <;> cases d2 <;> exact h1.elim
  | [.none, _], _, h1 => exact h1.elim
  | [.bool _, _], _, h1 => exact h1.elim
  | [.int _, _], _, h1 => exact h1.elim
  | [.str _, _], _, h1 => exact h1.elim
  | [.dict _, _], _, h1 => exact h1.elim
  | [.list _, .none], _, h1 => exact h1.elim
  | [.list _, .bool _], _, h1 => exact h1.elim
  | [.list _, .int _], _, h1 => exact h1.elim
  | [.list _, .str _], _, h1 => exact h1.elim
  | [.list _, .tuple _], _, h1 => exact h1.elim
  | [.list _, .dict _], _, h1 => exact h1.elim
  | [.tuple _, .none], _, h1 => exact h1.elim
  | [.tuple _, .bool _], _, h1 => exact h1.elim
  | [.tuple _, .int _], _, h1 => exact h1.elim
  | [.tuple _, .str _], _, h1 => exact h1.elim
  | [.tuple _, .list _], _, h1 => exact h1.elim
  | [.tuple _, .dict _], _, h1 => exact h1.elim
end
end E3

namespace BS
open PySem PySem.Spec PyProof.Rows L2

def fx : Nat → Nat
  | 0 => 0
  | n + 1 => 5 * fx n + 1
theorem fx_add (a : Nat) : ∀ b, fx (a + b) = 5 ^ b * fx a + fx b
  | 0 => by simp [fx]
  | b + 1 => by
    show 5 * fx (a + b) + 1 = 5 ^ (b + 1) * fx a + (5 * fx b + 1)
    rw [fx_add a b, Nat.pow_succ, Nat.mul_add, ← Nat.mul_assoc, Nat.mul_comm 5 (5 ^ b)]
    omega
theorem fx_pow : ∀ n, 5 ^ n = 4 * fx n + 1
  | 0 => rfl
  | n + 1 => by
    show 5 ^ n * 5 = 4 * (5 * fx n + 1) + 1
    rw [fx_pow n]
    omega
theorem fx_par : ∀ n, fx n % 2 = n % 2
  | 0 => rfl
  | n + 1 => by
    have := fx_par n
    show (5 * fx n + 1) % 2 = (n + 1) % 2
    omega
theorem co_two (v : Nat) : Nat.Coprime 2 (2 * v + 1) := by
  show Nat.gcd 2 (2 * v + 1) = 1
  rw [Nat.gcd_rec]
  have : (2 * v + 1) % 2 = 1 := by omega
  rw [this]
  rfl
theorem odd_co (k v : Nat) : Nat.Coprime (2 ^ k) (2 * v + 1) := Nat.Coprime.pow_left k (co_two v)
theorem fx_dvd : ∀ (s k : Nat), 2 ^ k ∣ fx s → 2 ^ k ∣ s := by
  intro s
  induction s using Nat.strongRecOn with
  | ind s ih =>
    intro k h
    cases k with
    | zero => exact ⟨s, by simp⟩
    | succ k =>
      have h2 : fx s % 2 = 0 := by
        obtain ⟨q, hq⟩ := h
        rw [hq, Nat.pow_succ]
        have : 2 ^ k * 2 * q = 2 * (2 ^ k * q) := by rw [Nat.mul_comm (2 ^ k) 2, Nat.mul_assoc]
        omega
      rw [fx_par] at h2
      obtain ⟨t, rfl⟩ : ∃ t, s = t + t := ⟨s / 2, by omega⟩
      cases t with
      | zero => exact ⟨0, rfl⟩
      | succ t =>
        have e : fx (t + 1 + (t + 1)) = 2 * ((2 * fx (t + 1) + 1) * fx (t + 1)) := by
          rw [fx_add, fx_pow (t + 1)]
          generalize fx (t + 1) = y
          have e1 : 2 * ((2 * y + 1) * y) = (4 * y + 2) * y := by
            rw [← Nat.mul_assoc]
            congr 1
            omega
          rw [e1, Nat.add_mul, Nat.add_mul]
          omega
        rw [e, Nat.pow_succ, Nat.mul_comm (2 ^ k) 2] at h
        have h3 := Nat.dvd_of_mul_dvd_mul_left (by decide : 0 < 2) h
        have h4 := (odd_co k (fx (t + 1))).dvd_of_dvd_mul_left h3
        have h5 := ih (t + 1) (by omega) k h4
        rw [Nat.pow_succ]
        obtain ⟨q, hq⟩ := h5
        exact ⟨q, by rw [Nat.mul_assoc, Nat.mul_comm 2 q, ← Nat.mul_assoc, ← hq]; omega⟩
theorem lcg_fx (m i : Nat) (hi : i ≤ m) : ∀ k, lcgI m i k = (5 ^ k * i + fx k) % (m + 1)
  | 0 => by
    show i = _
    rw [Nat.pow_zero, Nat.one_mul]
    exact (Nat.mod_eq_of_lt (Nat.lt_succ_of_le hi)).symm
  | k + 1 => by
    show (lcgI m i k * 5 + 1) % (m + 1) = (5 ^ (k + 1) * i + (5 * fx k + 1)) % (m + 1)
    rw [lcg_fx m i hi k, Nat.add_mod, Nat.mul_mod, Nat.mod_mod, ← Nat.mul_mod, ← Nat.add_mod, Nat.pow_succ]
    congr 1
    have : 5 ^ k * 5 * i = 5 * (5 ^ k * i) := by rw [Nat.mul_comm (5 ^ k) 5, Nat.mul_assoc]
    rw [this]
    omega
theorem lcg_le (m i : Nat) (hi : i ≤ m) : ∀ k, lcgI m i k ≤ m
  | 0 => hi
  | k + 1 => Nat.le_of_lt_succ (Nat.mod_lt _ (Nat.succ_pos _))
theorem lcg_add (m i a : Nat) : ∀ b, lcgI m i (a + b) = lcgI m (lcgI m i a) b
  | 0 => rfl
  | b + 1 => by
    show (lcgI m i (a + b) * 5 + 1) % (m + 1) = (lcgI m (lcgI m i a) b * 5 + 1) % (m + 1)
    rw [lcg_add m i a b]
def M2 (m : Nat) : Prop := ∃ k, m + 1 = 2 ^ k
theorem lcg_inj {m i : Nat} (hm : M2 m) (hi : i ≤ m) {a b : Nat} (hab : a < b) (hb : b ≤ m) : lcgI m i a ≠ lcgI m i b := by
  obtain ⟨k, hk⟩ := hm
  obtain ⟨s, rfl⟩ : ∃ s, b = a + s := ⟨b - a, by omega⟩
  rw [lcg_add]
  intro e
  have hv := lcg_le m i hi a
  generalize lcgI m i a = v at *
  rw [lcg_fx m v hv s, fx_pow s] at e
  have e1 : (4 * fx s + 1) * v + fx s = (2 * (2 * v) + 1) * fx s + v := by
    rw [Nat.add_mul, Nat.add_mul]
    have : 4 * fx s * v = 2 * (2 * v) * fx s := by
      rw [← Nat.mul_assoc, Nat.mul_right_comm]
    omega
  rw [e1] at e
  have h1 : (2 * (2 * v) + 1) * fx s % (m + 1) = 0 := by
    generalize (2 * (2 * v) + 1) * fx s = z at *
    have hv1 : v % (m + 1) = v := Nat.mod_eq_of_lt (by omega)
    have hz := Nat.mod_lt z (Nat.succ_pos m)
    rw [Nat.add_mod, hv1] at e
    have hz' : z % (m + 1) < m + 1 := hz
    rcases Nat.lt_or_ge (z % (m + 1) + v) (m + 1) with c | c
    · rw [Nat.mod_eq_of_lt c] at e
      omega
    · rw [Nat.mod_eq_sub_mod c, Nat.mod_eq_of_lt (by omega)] at e
      omega
  have h2 := Nat.dvd_of_mod_eq_zero h1
  rw [hk] at h2
  have h3 := (odd_co k (2 * v)).dvd_of_dvd_mul_left h2
  have h4 := fx_dvd s k h3
  rw [← hk] at h4
  have := Nat.le_of_dvd (by omega) h4
  omega
theorem lcg_meets {m i j : Nat} (hm : M2 m) (hi : i ≤ m) (hj : j ≤ m) : ∃ k, k ≤ m ∧ lcgI m i k = j := by
  rcases Classical.em (∃ k, k ≤ m ∧ lcgI m i k = j) with c | c
  · exact c
  · exfalso
    have nd : ((List.range (m + 1)).map (lcgI m i)).Nodup := by
      refine List.pairwise_map.mpr ?_
      refine List.Pairwise.imp_of_mem ?_ (List.pairwise_lt_range (n := m + 1))
      intro a b _ hb hab
      exact lcg_inj hm hi hab (by have := List.mem_range.mp hb; omega)
    have sub : ∀ x ∈ (List.range (m + 1)).map (lcgI m i), x ∈ (List.range (m + 1)).erase j := fun x hx => by
      obtain ⟨a, ha, rfl⟩ := List.mem_map.mp hx
      have h1 := List.mem_range.mp ha
      have ne : lcgI m i a ≠ j := fun e => c ⟨a, by omega, e⟩
      exact (List.mem_erase_of_ne ne).2 (List.mem_range.mpr (Nat.lt_succ_of_le (lcg_le m i hi a)))
    have h := nat_nodup_len _ _ nd sub
    have e := List.length_erase_of_mem (List.mem_range.mpr (Nat.lt_succ_of_le hj))
    rw [List.length_map, List.length_range, e, List.length_range] at h
    omega
theorem search_meets {m : Nat} (hm : M2 m) (h : Int) {j : Nat} (hj : j ≤ m) : ∃ k, k < 10 * SetTable.turns m ∧ (nth m (runAt m (SetTable.bits h % (m + 1)) (SetTable.bits h)) k).j = j := by
  obtain ⟨n, hn, e⟩ := lcg_meets hm (runI_le m (SetTable.bits h) 12) hj
  obtain ⟨k, hk, e2⟩ := run_nth m (SetTable.bits h) (12 + n)
  refine ⟨k, by unfold SetTable.turns; omega, ?_⟩
  rw [e2]
  show runI m (SetTable.bits h) (12 + n) = j
  rw [runI_tail (bits_lt h)]
  exact e
end BS

namespace BS
open PySem PySem.Spec PyProof.Rows L2

theorem way_in (m : Nat) (h : Int) (k : Nat) : way m h k ≤ m := by
  have h0 : SetTable.bits h % (m + 1) ≤ m := Nat.le_of_lt_succ (Nat.mod_lt _ (Nat.succ_pos _))
  have h1 := runEnd_bd h0
  have h2 := nth_in (m := m) k (runAt m (SetTable.bits h % (m + 1)) (SetTable.bits h)) (by
    show SetTable.bits h % (m + 1) + (SetTable.runEnd m (SetTable.bits h % (m + 1)) - SetTable.bits h % (m + 1)) ≤ m
    omega)
  show (nth m (runAt m (SetTable.bits h % (m + 1)) (SetTable.bits h)) k).j ≤ m
  omega
def Reach (m : Nat) (occ : List Nat) (h : Int) (j : Nat) : Prop := ∃ K, way m h K = j ∧ ∀ k, k < K → way m h k ∈ occ
theorem Reach.mono {m : Nat} {occ occ' : List Nat} {h : Int} {j : Nat} (r : Reach m occ h j) (s : ∀ x ∈ occ, x ∈ occ') : Reach m occ' h j := let ⟨K, e, b⟩ := r; ⟨K, e, fun k hk => s _ (b k hk)⟩
theorem free_slot {m : Nat} (hm : M2 m) (occ : List Nat) (hl : occ.length ≤ m) (h : Int) : ∃ K, K < 10 * SetTable.turns m ∧ way m h K ∉ occ ∧ ∀ k, k < K → way m h k ∈ occ := by
  obtain ⟨j, hj, nj⟩ := st_missing occ (m + 1) (by omega)
  obtain ⟨k, hk, e⟩ := search_meets hm h (show j ≤ m by omega)
  obtain ⟨K, a, b, c⟩ := st_least (p := fun k => way m h k ∉ occ) k (by show way m h k ∉ occ; rw [show way m h k = j from e]; exact nj)
  exact ⟨K, by omega, b, fun k hk => Classical.byContradiction fun z => c k hk z⟩
structure Tb (t : SetTable) (hs : List Int) : Prop where
  up : Ris t.place.toList
  nd : t.dummies = #[]
  sz : t.place.toList.length = hs.length
  m2 : M2 t.mask
  le : ∀ x ∈ t.place.toList, x ≤ t.mask
  at_ : ∀ (i : Nat) (h : Int) (j : Nat), hs[i]? = some h → t.place.toList[i]? = some j → Reach t.mask t.place.toList h j
theorem Tb.ahead {t : SetTable} {hs : List Int} (T : Tb t hs) {h : Int} {K i j : Nat} (hK : way t.mask h K ∉ t.place.toList) (hi : hs[i]? = some h) (hj : t.place.toList[i]? = some j) : ∃ k, k < K ∧ way t.mask h k = j := by
  obtain ⟨k, e, b⟩ := T.at_ i h j hi hj
  rcases Nat.lt_trichotomy k K with c | c | c
  · exact ⟨k, c, e⟩
  · subst c
    rw [e] at hK
    exact absurd (List.mem_of_getElem? hj) hK
  · exact absurd (b K c) hK
theorem below_le {t : SetTable} {hs : List Int} (T : Tb t hs) (j : Nat) : SetTable.below t.place j ≤ hs.length := by
  have h := (below_cut T.up j).1
  have := T.sz
  rw [Array.length_toList] at this
  omega
theorem Tb.put {t : SetTable} {hs : List Int} (T : Tb t hs) {h : Int} {K : Nat} (hK : way t.mask h K ∉ t.place.toList) (hb : ∀ k, k < K → way t.mask h k ∈ t.place.toList) :
    Tb (t.put (way t.mask h K)).1 (hs.take (SetTable.below t.place (way t.mask h K)) ++ h :: hs.drop (SetTable.below t.place (way t.mask h K))) := by
  have jm := way_in t.mask h K
  have me : way t.mask h K = way t.mask h K := rfl
  generalize hj : way t.mask h K = j at hK jm
  have ph := below_le T j
  have pl : SetTable.below t.place j ≤ t.place.toList.length := by rw [T.sz]; exact ph
  have no : t.place[SetTable.below t.place j]? ≠ some j := fun e => hK (List.mem_of_getElem? (by rw [Array.getElem?_toList]; exact e))
  have pp := put_place t j
  have more : ∀ x ∈ t.place.toList, x ∈ (t.put j).1.place.toList := fun x hx => by rw [pp]; exact mem_ins.2 (.inr hx)
  refine ⟨ris_insert T.up no, put_dm T.nd j, by rw [pp, len_ins _ pl, len_ins _ ph, T.sz], T.m2, fun x hx => ?_, fun i g l hi hl => ?_⟩
  · rw [pp] at hx
    rcases mem_ins.1 hx with e | hx
    · rw [e]; exact jm
    · exact T.le x hx
  · rw [tins_get hs ph] at hi
    rw [pp, tins_get _ pl] at hl
    show Reach t.mask (t.put j).1.place.toList g l
    by_cases c : i < SetTable.below t.place j
    · rw [if_pos c] at hi hl
      exact (T.at_ i g l hi hl).mono more
    · rw [if_neg c] at hi hl
      by_cases d : i = SetTable.below t.place j
      · rw [if_pos d] at hi hl
        cases hi
        cases hl
        exact ⟨K, hj, fun k hk => more _ (hb k hk)⟩
      · rw [if_neg d] at hi hl
        exact (T.at_ (i - 1) g l hi hl).mono more
theorem Tb.fill {t : SetTable} {hs : List Int} (T : Tb t hs) : t.fill = hs.length := by
  unfold SetTable.fill
  rw [T.nd, ← Array.length_toList, T.sz]
  rfl
theorem Tb.fits {t : SetTable} {hs : List Int} (T : Tb t hs) (h : hs.length ≤ t.mask) : t.fits hs.length = true := by
  unfold SetTable.fits
  rw [T.fill, ← Array.length_toList, T.sz]
  simp [h]
theorem find_free {m : Nat} (hm : M2 m) (owner : Array (Option Nat)) (h : Int) {j : Nat} (hj : j ≤ m) (hf : oAt owner j = none) :
    ∃ K, SetTable.layClean.free m owner (SetTable.turns m) (SetTable.bits h % (m + 1)) (SetTable.bits h) = some (way m h K) ∧ oAt owner (way m h K) = none ∧ ∀ k, k < K → oAt owner (way m h k) ≠ none := by
  obtain ⟨n, hn, e⟩ := lcg_meets hm (runI_le m (SetTable.bits h) 12) hj
  have hw : way m h (off m (SetTable.bits h % (m + 1)) (SetTable.bits h) (12 + n)) = j := by
    show (nth m (runAt m (SetTable.bits h % (m + 1)) (SetTable.bits h)) _).j = j
    rw [nth_off, itL_run]
    show runI m (SetTable.bits h) (12 + n) = j
    rw [runI_tail (bits_lt h)]
    exact e
  obtain ⟨K, a, b, c⟩ := st_least (p := fun k => oAt owner (way m h k) = none) _ (show oAt owner (way m h (off m (SetTable.bits h % (m + 1)) (SetTable.bits h) (12 + n))) = none by rw [hw]; exact hf)
  refine ⟨K, free_spec m owner (SetTable.turns m) (12 + n) _ _ K (by unfold SetTable.turns; omega) a (fun k hk => ?_) ?_, b, c⟩
  · have := c k hk
    cases z : oAt owner (nth m (runAt m (SetTable.bits h % (m + 1)) (SetTable.bits h)) k).j with
    | none => exact absurd z this
    | some _ => rfl
  · have : oAt owner (nth m (runAt m (SetTable.bits h % (m + 1)) (SetTable.bits h)) K).j = none := b
    rw [this]; rfl
structure Seats (m : Nat) (done : List Int) (owner : Array (Option Nat)) : Prop where
  sz : owner.size = m + 1
  at_ : ∀ j k, j ≤ m → oAt owner j = some k → ∃ h K, done[k]? = some h ∧ way m h K = j ∧ ∀ k', k' < K → oAt owner (way m h k') ≠ none
  ps : ∃ ps : List Nat, ps.length = done.length ∧ ps.Nodup ∧ (∀ j, j ≤ m → (oAt owner j ≠ none ↔ j ∈ ps)) ∧ (∀ j ∈ ps, j ≤ m) ∧ ∀ i j, ps[i]? = some j → oAt owner j = some i
theorem seats_none (m : Nat) : Seats m [] (Array.replicate (m + 1) none) :=
  ⟨by simp, fun j k hj e => (by rw [oAt_init hj] at e; cases e), [], rfl, List.nodup_nil, fun j hj => ⟨fun e => absurd (oAt_init hj) e, fun z => (by cases z)⟩, fun j z => (by cases z), fun i j z => (by simp at z)⟩
theorem Seats.more {m : Nat} (hm : M2 m) {done : List Int} {owner : Array (Option Nat)} (W : Seats m done owner) (hl : done.length ≤ m) (h : Int) :
    ∃ j, SetTable.layClean.free m owner (SetTable.turns m) (SetTable.bits h % (m + 1)) (SetTable.bits h) = some j ∧ Seats m (done ++ [h]) (owner.setIfInBounds j (some done.length)) := by
  obtain ⟨ps, pl, pn, pm, pb, pi⟩ := W.ps
  obtain ⟨j0, a0, b0⟩ := st_missing ps (m + 1) (by omega)
  have f0 : oAt owner j0 = none := Classical.byContradiction fun z => b0 ((pm j0 (by omega)).mp z)
  obtain ⟨K, e1, e2, e3⟩ := find_free hm owner h (show j0 ≤ m by omega) f0
  have jm := way_in m h K
  generalize hj : way m h K = j at e1 e2 jm
  have js : j < owner.size := by rw [W.sz]; omega
  have new := oAt_set_self (some done.length) js
  have old : ∀ i, i ≠ j → oAt (owner.setIfInBounds j (some done.length)) i = oAt owner i := fun i n => oAt_set_ne _ n
  have jp : j ∉ ps := fun z => (pm j jm).mpr z e2
  have grow : ∀ i, oAt owner i ≠ none → oAt (owner.setIfInBounds j (some done.length)) i ≠ none := fun i hi => by
    by_cases c : i = j
    · rw [c, new]; exact fun z => nomatch z
    · rw [old i c]; exact hi
  refine ⟨j, e1, by rw [Array.size_setIfInBounds]; exact W.sz, fun i k hi e => ?_, ps ++ [j], by rw [List.length_append, List.length_append, pl]; rfl, ?_, fun i hi => ?_, fun i hi => ?_, fun i l hl' => ?_⟩
  · by_cases c : i = j
    · subst c
      rw [new] at e
      cases e
      exact ⟨h, K, by rw [List.getElem?_append_right (Nat.le_refl _), Nat.sub_self]; rfl, hj, fun k' hk' => grow _ (e3 k' hk')⟩
    · rw [old i c] at e
      obtain ⟨g, K', b1, b2, b3⟩ := W.at_ i k hi e
      exact ⟨g, K', by rw [List.getElem?_append_left (List.getElem?_eq_some_iff.mp b1).1]; exact b1, b2, fun k' hk' => grow _ (b3 k' hk')⟩
  · refine List.nodup_append.mpr ⟨pn, by simp, fun a ha b hb => ?_⟩
    rw [List.mem_singleton.mp hb]
    exact fun z => jp (z ▸ ha)
  · rw [List.mem_append, List.mem_singleton]
    by_cases c : i = j
    · subst c
      exact ⟨fun _ => .inr rfl, fun _ => by rw [new]; exact fun z => nomatch z⟩
    · rw [old i c, pm i hi]
      exact ⟨.inl, fun z => z.resolve_right c⟩
  · rcases List.mem_append.mp hi with z | z
    · exact pb i z
    · rw [List.mem_singleton.mp z]; exact jm
  · by_cases c : i < ps.length
    · rw [List.getElem?_append_left c] at hl'
      have hne : l ≠ j := fun z => jp (z ▸ List.mem_of_getElem? hl')
      rw [old l hne]
      exact pi i l hl'
    · rw [List.getElem?_append_right (by omega)] at hl'
      have hi0 : i - ps.length = 0 := by
        have := (List.getElem?_eq_some_iff.mp hl').1
        simp at this
        omega
      rw [hi0] at hl'
      cases hl'
      have : i = done.length := by omega
      rw [this]; exact new
theorem seats_fold {m : Nat} (hm : M2 m) : ∀ (rest done : List Int) (owner : Array (Option Nat)), Seats m done owner → done.length + rest.length ≤ m + 1 →
    ∃ owner' n, rest.foldl (stepF m) (some (owner, done.length)) = some (owner', n) ∧ Seats m (done ++ rest) owner'
  | [], done, owner, W, _ => ⟨owner, _, rfl, by rw [List.append_nil]; exact W⟩
  | h :: rest, done, owner, W, hl => by
    rw [List.length_cons] at hl
    obtain ⟨j, e, W1⟩ := W.more hm (by omega) h
    have hd : (done ++ [h]).length = done.length + 1 := by rw [List.length_append]; rfl
    obtain ⟨o2, n, f, W2⟩ := seats_fold hm rest (done ++ [h]) _ W1 (by omega)
    rw [hd] at f
    refine ⟨o2, n, ?_, by rw [List.append_assoc] at W2; exact W2⟩
    rw [List.foldl_cons, stepF_some e]
    exact f
theorem relaid_tb (t : SetTable) {hs : Array Int} {wanted M : Nat} (hw : SetTable.sizeAbove wanted - 1 = M) (hM : M2 M) (hn : hs.size ≤ M) :
    ∃ t' order, t.relaid hs wanted = some (t', order) ∧ order.toList.Perm (List.range hs.size) ∧ Tb t' (order.toList.map fun i => hs.getD i 0) ∧ t'.mask = M ∧ t'.led = t.led ∧ t'.plain = t.plain := by
  obtain ⟨owner, n, f, W⟩ := seats_fold hM hs.toList [] _ (seats_none M) (by rw [Array.length_toList]; show 0 + hs.size ≤ M + 1; omega)
  rw [List.nil_append] at W
  obtain ⟨ps, pl, pn, pm, pb, pi⟩ := W.ps
  have pl2 : ps.length = hs.size := pl.trans Array.length_toList
  have e0 : SetTable.layClean M hs = some owner := by
    rw [layClean_eq]
    have : hs.toList.foldl (stepF M) (some (Array.replicate (M + 1) none, 0)) = some (owner, n) := f
    rw [this]; rfl
  have rz := ris_live (fun j => owner.getD j none) (List.range (M + 1)) (by
    unfold Ris
    first | exact List.pairwise_lt_range | exact List.pairwise_lt_range _)
  have r1 : Ris ((liveOf M owner).map (·.1)) := rz.1
  have r2 : ∀ x ∈ (liveOf M owner).map (·.1), x ∈ List.range (M + 1) := rz.2
  have ml : ∀ {j k : Nat}, (j, k) ∈ liveOf M owner ↔ j ≤ M ∧ oAt owner j = some k := mem_live W.sz
  have n1 : ((liveOf M owner).map (·.1)).Nodup := r1.imp fun h => Nat.ne_of_lt h
  have p1 : ((liveOf M owner).map (·.1)).Perm ps := (List.perm_ext_iff_of_nodup n1 pn).mpr fun j => by
    constructor
    · intro hj
      obtain ⟨⟨y, k⟩, hq, e⟩ := List.mem_map.mp hj
      have e' : y = j := e
      subst e'
      obtain ⟨b1, b2⟩ := ml.mp hq
      exact (pm y b1).mp (by rw [b2]; exact fun z => nomatch z)
    · intro hj
      have hjm := pb j hj
      have := (pm j hjm).mpr hj
      cases z : oAt owner j with
      | none => exact absurd z this
      | some k => exact List.mem_map.mpr ⟨(j, k), ml.mpr ⟨hjm, z⟩, rfl⟩
  have len : (liveOf M owner).length = hs.size := by
    have := p1.length_eq
    rw [List.length_map] at this
    omega
  refine ⟨tabOf t M owner, ((liveOf M owner).map (·.2)).toArray, by rw [relaid_eq, hw, e0]; rfl, ?_, ⟨r1, rfl, ?_, hM, fun x hx => ?_, fun i h j hi hj => ?_⟩, rfl, rfl, rfl⟩
  · refine perm_range hs.size _ (by show ((liveOf M owner).map (·.2)).length = _; rw [List.length_map, len]) fun k hk => ?_
    have hk' : k < ps.length := by omega
    have e := pi k ps[k] (List.getElem?_eq_getElem hk')
    exact List.mem_map.mpr ⟨(ps[k], k), ml.mpr ⟨pb _ (List.getElem_mem hk'), e⟩, rfl⟩
  · show ((liveOf M owner).map (·.1)).length = (((liveOf M owner).map (·.2)).map _).length
    rw [List.length_map, List.length_map, List.length_map]
  · exact Nat.le_of_lt_succ (List.mem_range.mp (r2 x hx))
  · have hi' : (((liveOf M owner).map (·.2)).map fun i => hs.getD i 0)[i]? = some h := hi
    have hj' : ((liveOf M owner).map (·.1))[i]? = some j := hj
    rw [List.getElem?_map, List.getElem?_map] at hi'
    rw [List.getElem?_map] at hj'
    cases hq : (liveOf M owner)[i]? with
    | none => rw [hq] at hj'; cases hj'
    | some q =>
      obtain ⟨y, k⟩ := q
      rw [hq] at hi' hj'
      have ey : y = j := Option.some.inj hj'
      have eh : hs.getD k 0 = h := Option.some.inj hi'
      subst ey
      obtain ⟨b1, b2⟩ := ml.mp (List.mem_of_getElem? hq)
      obtain ⟨g, K, a1, a2, a3⟩ := W.at_ y k b1 b2
      have eg : hs.getD k 0 = g := by
        rw [Array.getElem?_toList] at a1
        rw [Array.getD_eq_getD_getElem?, a1]; rfl
      rw [eg] at eh
      subst eh
      refine ⟨K, a2, fun k' hk' => ?_⟩
      show way M g k' ∈ (liveOf M owner).map (·.1)
      cases z : oAt owner (way M g k') with
      | none => exact absurd z (a3 k' hk')
      | some k2 => exact List.mem_map.mpr ⟨(way M g k', k2), ml.mpr ⟨way_in M g k', z⟩, rfl⟩
end BS

namespace BS
open PySem PySem.Spec PyProof.Rows L2

def Mk (m : Nat) : Prop := m = 7 ∨ m = 31 ∨ m = 127 ∨ m = 511 ∨ m = 2047 ∨ m = 8191
theorem Mk.m2 {m : Nat} (h : Mk m) : M2 m := by
  rcases h with e | e | e | e | e | e <;> subst e
  · exact ⟨3, rfl⟩
  · exact ⟨5, rfl⟩
  · exact ⟨7, rfl⟩
  · exact ⟨9, rfl⟩
  · exact ⟨11, rfl⟩
  · exact ⟨13, rfl⟩
theorem Mk.odd {m : Nat} (h : Mk m) : m % 2 = 1 := by rcases h with e | e | e | e | e | e <;> subst e <;> rfl
theorem Mk.le {m : Nat} (h : Mk m) : m ≤ 8191 := by rcases h with e | e | e | e | e | e <;> subst e <;> decide
structure SetB (P : Program) (w : World) (h : Heap) (a : Addr) (L : List (Addr × List Int)) (es : Array (Int × Value)) (ep : Nat) (t : SetTable) : Prop where
  ob : ∃ o, h.get? a = some o ∧ o.ExactSet ∧ o.data = .set es ep t
  rows : es.toList = rowsOf P w L
  tab : Tb t (L.map fun p => thash P w p.2)
  nd : (L.map (·.2)).Nodup
  tup : ∀ p ∈ L, IsT P w h p.2 p.1
  plain : t.plain = true
  led : w.params.followText "set-order" = true ∨ t.led = true
  room : L.length * 5 < t.mask * 3
  okM : Mk t.mask
  few : L.length < 4096
abbrev stand (m : Nat) (h : Int) (c : Nat) : SetTable.Probe := nth m (runAt m (SetTable.bits h % (m + 1)) (SetTable.bits h)) c
theorem stand_more (m : Nat) (h : Int) (c q : Nat) : nth m (stand m h c) q = stand m h (c + q) := (nth_add m c _ q).symm
theorem stand_plain (m : Nat) (h : Int) (c : Nat) : (stand m h c).dummy = none := by
  have go : ∀ (n : Nat) (p : SetTable.Probe), p.dummy = none → (nth m p n).dummy = none := by
    intro n
    induction n with
    | zero => exact fun p h => h
    | succ n ih => exact fun p h => ih (adv m p) (by unfold adv; split <;> exact h)
  exact go c _ rfl
section
variable {P : Program} {w : World} {A : Around} {E : Value → Shared → Prop} {s : Shared} {a : Addr} {L : List (Addr × List Int)} {es : Array (Int × Value)} {ep : Nat} {t : SetTable}
theorem SetB.size (R : SetB P w s.heap a L es ep t) : es.size = L.length := by
  have h := congrArg List.length R.rows
  unfold rowsOf at h
  rw [Array.length_toList, List.length_map] at h
  exact h
theorem SetB.fits (R : SetB P w s.heap a L es ep t) : t.fits es.size = true := by
  have h := R.tab.fits (by rw [List.length_map]; have := R.room; omega)
  rw [List.length_map] at h
  rw [R.size]; exact h
theorem SetB.entry (R : SetB P w s.heap a L es ep t) {i : Nat} {p : Addr × List Int} (h : L[i]? = some p) : es[i]? = some (thash P w p.2, Value.ref p.1) := by
  rw [← Array.getElem?_toList, R.rows]
  unfold rowsOf
  rw [List.getElem?_map, h]; rfl
theorem SetB.gw (R : SetB P w s.heap a L es ep t) : ¬ t.gaveWay = true := by
  unfold SetTable.gaveWay
  rw [R.okM.odd]
  decide
theorem SetB.live (R : SetB P w s.heap a L es ep t) {i j : Nat} (h : t.place.toList[i]? = some j) : ∃ p, L[i]? = some p := by
  have h1 := (List.getElem?_eq_some_iff.mp h).1
  rw [R.tab.sz, List.length_map] at h1
  exact ⟨_, List.getElem?_eq_getElem h1⟩
theorem seek (R : SetB P w s.heap a L es ep t) {x : Addr} {k : List Int} (hx : IsT P w s.heap k x) (hu : A.units < cLine) {K : Nat} (Kf : K < 10 * SetTable.turns t.mask)
    (free : way t.mask (thash P w k) K ∉ t.place.toList) (took : ∀ c, c < K → way t.mask (thash P w k) c ∈ t.place.toList) {Q : SetFound → Shared → Prop}
    (yes : k ∈ L.map (·.2) → Q (.there none) s) (no : k ∉ L.map (·.2) → Q (.free (way t.mask (thash P w k) K) false) s) :
    ∀ (f c : Nat) (st : Option SetTable.Probe), st.getD (t.probeStart (thash P w k)) = stand t.mask (thash P w k) c → c ≤ K → K - c < f →
      (∀ (i : Nat) p, L[i]? = some p → p.2 = k → ∃ d, c ≤ d ∧ d < K ∧ t.place.toList[i]? = some (way t.mask (thash P w k) d)) →
      wpAny (model P w) A (setSearchFrom a (.ref x) (thash P w k) true f st) Q E s := by
  intro f
  induction f with
  | zero => intro c st _ _ hf; exact absurd hf (Nat.not_lt_zero _)
  | succ f ih =>
    intro c st hst hc hf here
    obtain ⟨o, ho, hex, hd⟩ := R.ob
    have sj : ∀ q, (nth t.mask (stand t.mask (thash P w k) c) q).j = way t.mask (thash P w k) (c + q) := fun q => congrArg SetTable.Probe.j (stand_more _ _ c q)
    have hK : c + (K - c) = K := by omega
    have hash : ∀ (i : Nat) p, L[i]? = some p → (es[i]?.map (·.1)).getD 0 = thash P w p.2 := fun i p hp => by rw [R.entry hp]; rfl
    rw [setSearchFrom_succ]
    refine wpAny_bind (wpAny_setState_of ho hd R.fits ?_)
    dsimp only
    refine wp_if_neg R.gw ?_
    try refine wpAny_bind (wpAny_pure ?_)
    rcases go_spec t R.tab.up R.tab.nd (fun i => (es[i]?.map (·.1)).getD 0) (thash P w k) (10 * SetTable.turns t.mask) (K - c) (stand t.mask (thash P w k) c) (stand_plain _ _ c) (by omega)
      (fun q hq => by rw [sj]; exact took _ (by omega)) (by rw [sj, hK]; exact free) with ⟨q, i, hq, hi, hh, ahead, met⟩ | ⟨ahead, met⟩
    · rw [sj] at hi
      have met' : t.probe (fun i => (es[i]?.map (·.1)).getD 0) (thash P w k) (st.getD (t.probeStart (thash P w k))) = some (.candidate (way t.mask (thash P w k) (c + q)) i (stand t.mask (thash P w k) (c + (q + 1)))) := by
        rw [hst, ← sj, ← stand_more]
        exact met
      rw [met']
      dsimp only
      obtain ⟨p, hp⟩ := R.live hi
      have pL : p ∈ L := List.mem_of_getElem? hp
      have sl : t.slot (way t.mask (thash P w k) (c + q)) = .live i := slot_live R.tab.up hi
      have go : wpAny (model P w) A (searchRest a (.ref x) (thash P w k) true f es t (way t.mask (thash P w k) (c + q)) i (stand t.mask (thash P w k) (c + (q + 1)))) Q E s := by
        unfold searchRest
        rw [R.entry hp]
        dsimp only
        refine wpAny_bind (wpAny_holding (wpAny_eqBool_tuple hu (R.tup p pL) hx ?_))
        refine wpAny_bind (wpAny_setState_of ho hd R.fits ?_)
        dsimp only
        by_cases same : p.2 = k
        · refine wp_if_pos (by simp [same]) (wpAny_pure (yes (List.mem_map.mpr ⟨p, pL, same⟩)))
        · refine wp_if_neg (by simp [same]) ?_
          try refine wpAny_bind (wpAny_pure ?_)
          rw [sameMem]
          dsimp only
          simp only [if_true, sl, R.entry hp]
          refine wpAny_bind (wpAny_isSame_ref_self (wpAny_bind (wpAny_pure ?_)))
          simp only [if_true]
          refine wp_if_neg (by simp [same]) ?_
          refine ih (c + (q + 1)) _ rfl (by omega) (by omega) fun i0 p0 h0 k0 => ?_
          obtain ⟨d, d1, d2, d3⟩ := here i0 p0 h0 k0
          refine ⟨d, ?_, d2, d3⟩
          rcases Nat.lt_trichotomy d (c + q) with z | z | z
          · have e : c + (d - c) = d := by omega
            exact absurd ((hash i0 p0 h0).trans (congrArg (thash P w) k0)) (ahead (d - c) i0 (by omega) (by rw [sj, e]; exact d3))
          · subst z
            have s0 := slot_live R.tab.up d3
            rw [sl] at s0
            injection s0 with s0
            rw [← s0, hp] at h0
            exact absurd ((congrArg Prod.snd (Option.some.inj h0)).trans k0) same
          · omega
      by_cases l : t.led = true
      · refine wp_if_neg (by simp [l]) ?_
        try refine wpAny_bind (wpAny_pure ?_)
        exact go
      · refine wp_if_pos (by simp [l]) (wpAny_bind (seen_tup hx (fun y hy => ?_) ?_))
        · obtain ⟨e, he, rfl⟩ := List.mem_map.mp hy
          have he2 : e ∈ es.toList := by
            have : e ∈ es ∧ e.1 = thash P w k := by simpa using he
            simpa using this.1
          rw [R.rows] at he2
          obtain ⟨r, hr, rfl⟩ := List.mem_map.mp he2
          exact ⟨r.2, r.1, rfl, R.tup r hr⟩
        · refine wp_if_neg (by decide) ?_
          try refine wpAny_bind (wpAny_pure ?_)
          exact go
    · have met' : t.probe (fun i => (es[i]?.map (·.1)).getD 0) (thash P w k) (st.getD (t.probeStart (thash P w k))) = some (.empty (way t.mask (thash P w k) K) none) := by
        rw [hst]
        have e := sj (K - c)
        rw [hK] at e
        rw [← e]
        exact met
      rw [met']
      dsimp only
      refine wpAny_pure (no fun hm => ?_)
      obtain ⟨p0, h0, k0⟩ := List.mem_map.mp hm
      obtain ⟨i0, l0, e0⟩ := List.getElem_of_mem h0
      have g0 : L[i0]? = some p0 := by rw [List.getElem?_eq_getElem l0, e0]
      obtain ⟨d, d1, d2, d3⟩ := here i0 p0 g0 k0
      have e : c + (d - c) = d := by omega
      exact absurd ((hash i0 p0 g0).trans (congrArg (thash P w) k0)) (ahead (d - c) i0 (by omega) (by rw [sj, e]; exact d3))
theorem look_up (R : SetB P w s.heap a L es ep t) {x : Addr} {k : List Int} (hx : IsT P w s.heap k x) (hu : A.units < cLine) {Q : SetFound → Shared → Prop}
    (yes : k ∈ L.map (·.2) → Q (.there none) s)
    (no : ∀ K, k ∉ L.map (·.2) → way t.mask (thash P w k) K ∉ t.place.toList → (∀ c, c < K → way t.mask (thash P w k) c ∈ t.place.toList) → Q (.free (way t.mask (thash P w k) K) false) s) :
    wpAny (model P w) A (setSearch a (.ref x) (thash P w k) true) Q E s := by
  have rm := R.room
  have ml := R.okM.le
  have pl := R.tab.sz
  rw [List.length_map] at pl
  obtain ⟨K, Kf, free, took⟩ := free_slot R.okM.m2 t.place.toList (by omega) (thash P w k)
  have Kb : K < 100000 := by
    unfold SetTable.turns at Kf
    omega
  unfold setSearch
  refine seek R hx hu Kf free took yes (fun z => no K z free took) 100000 0 none rfl (Nat.zero_le _) (by omega) fun i p hp hk => ?_
  have hi : (L.map fun p => thash P w p.2)[i]? = some (thash P w k) := by rw [List.getElem?_map, hp, ← hk]; rfl
  have il : i < t.place.toList.length := by
    have := (List.getElem?_eq_some_iff.mp hp).1
    omega
  have hj := List.getElem?_eq_getElem il
  obtain ⟨c, hc, e⟩ := R.tab.ahead free hi hj
  exact ⟨c, Nat.zero_le _, hc, by rw [hj, e]⟩
end
end BS

namespace BS
open PySem PySem.Spec PyProof.Rows L2

theorem grown_sizes : SetTable.sizeAbove (SetTable.grown 5) = 32 ∧ SetTable.sizeAbove (SetTable.grown 19) = 128 ∧ SetTable.sizeAbove (SetTable.grown 77) = 512 ∧ SetTable.sizeAbove (SetTable.grown 307) = 2048 ∧ SetTable.sizeAbove (SetTable.grown 1229) = 8192 := by
  refine ⟨?_, ?_, ?_, ?_, ?_⟩ <;> decide +kernel
section
variable {P : Program} {w : World} {A : Around} {E : Value → Shared → Prop} {s : Shared} {a : Addr} {L : List (Addr × List Int)} {es : Array (Int × Value)} {ep : Nat} {t : SetTable}
theorem relay_b {o : Obj} (ho : s.heap.get? a = some o) (hex : o.ExactSet) (hd : o.data = .set es ep t) (rows : es.toList = rowsOf P w L) (T : Tb t (L.map fun p => thash P w p.2)) (fit : L.length ≤ t.mask) (nd : (L.map (·.2)).Nodup) (tup : ∀ p ∈ L, IsT P w s.heap p.2 p.1)
    (pl : t.plain = true) (ld : w.params.followText "set-order" = true ∨ t.led = true) (few : L.length < 4096) {wanted M : Nat} (hw : SetTable.sizeAbove wanted - 1 = M) (hM : Mk M) (hw2 : SetTable.sizeAbove wanted ≤ 8192) (room : L.length * 5 < M * 3) {Q : Unit → Shared → Prop}
    (q : ∀ h' L' es' ep' t', Heap.SameBut a s.heap h' → SetB P w h' a L' es' ep' t' → L'.Perm L → Q () { s with heap := h' }) : wpAny (model P w) A (setRelay a wanted) Q E s := by
  have sz : es.size = L.length := by
    have h := congrArg List.length rows
    unfold rowsOf at h
    rw [Array.length_toList, List.length_map] at h
    exact h
  have fits : t.fits es.size = true := by
    have h := T.fits (by rw [List.length_map]; exact fit)
    rw [List.length_map] at h
    rw [sz]; exact h
  obtain ⟨t', order, e, perm, T', em, el, ep'⟩ := relaid_tb t (hs := es.map (·.1)) (wanted := wanted) hw hM.m2 (by rw [Array.size_map, sz]; omega)
  rw [Array.size_map, sz] at perm
  obtain ⟨L2, r1, r2, r3⟩ := order_rows L es order rows perm
  rw [← r3] at T'
  have sz2 : (order.filterMap (es[·]?)).size = es.size := by
    have h := congrArg List.length r1
    unfold rowsOf at h
    rw [Array.length_toList, List.length_map, r2.length_eq] at h
    rw [h, sz]
  rw [setRelay_eq]
  refine wpAny_bind (wpAny_setState_of ho hd fits ?_)
  dsimp only
  refine wp_if_neg (by rw [sizeLine_eq]; omega) ?_
  try refine wpAny_bind (wpAny_pure ?_)
  rw [e]
  dsimp only
  refine wpAny_bind ?_
  refine wp_if_neg (by rw [sz2]; simp) ?_
  try refine wpAny_bind (wpAny_pure ?_)
  refine wpAny_pure ?_
  dsimp only
  refine wpAny_storeSet_of ho hd ?_ (by rw [sz2, sz, sizeLine_eq]; omega)
  have sb : Heap.SameBut a s.heap (s.heap.update a (Obj.putSet (order.filterMap (es[·]?)) t')) := Heap.SameBut.update ..
  exact q _ L2 _ (ep + 1) t' sb ⟨⟨_, store_at ho hd, ⟨hex.1, hex.2.1, hex.2.2⟩, rfl⟩, r1, T', (r2.map (·.2)).nodup_iff.mpr nd, fun p hp => isT_same (tup p (r2.mem_iff.mp hp)) ho hd sb, by rw [ep']; exact pl, by rw [el]; exact ld, by rw [r2.length_eq, em]; exact room, by rw [em]; exact hM, by rw [r2.length_eq]; exact few⟩ r2
theorem add_b (R : SetB P w s.heap a L es ep t) {x : Addr} {k : List Int} (hx : IsT P w s.heap k x) (hu : A.units < cLine) (few : L.length + 1 < 4096) {Q : Bool → Shared → Prop}
    (q : ∀ b h' L' es' ep' t', Heap.SameBut a s.heap h' → SetB P w h' a L' es' ep' t' → (k ∈ L.map (·.2) → L' = L) → (k ∉ L.map (·.2) → L'.Perm ((x, k) :: L)) → Q b { s with heap := h' }) :
    wpAny (model P w) A (setAddHashed a (.ref x) (thash P w k)) Q E s := by
  obtain ⟨o, ho, hex, hd⟩ := R.ob
  have rm := R.room
  unfold setAddHashed
  refine wpAny_holding ?_
  rw [show (100000 : Nat) = 99999 + 1 from rfl, setAddHashedIn_succ]
  refine wpAny_bind (wpAny_setState_of ho hd R.fits ?_)
  dsimp only
  refine wp_if_neg (by simp [byScan, Value.scannable]) ?_
  try refine wpAny_bind (wpAny_pure ?_)
  refine wpAny_bind (look_up R hx hu (fun hm => ?_) fun K hm free took => ?_)
  · dsimp only
    exact wpAny_pure (q false s.heap L es ep t (Heap.SameBut.refl a s.heap) R (fun _ => rfl) fun z => absurd hm z)
  · dsimp only
    refine wpAny_bind (wpAny_setState_of ho hd R.fits ?_)
    dsimp only
    have T1 := R.tab.put free took
    have hp2 : (t.put (way t.mask (thash P w k) K)).2 = SetTable.below t.place (way t.mask (thash P w k) K) := rfl
    have m1 : (t.put (way t.mask (thash P w k) K)).1.mask = t.mask := rfl
    have l1 : (t.put (way t.mask (thash P w k) K)).1.led = t.led := rfl
    have p1 : (t.put (way t.mask (thash P w k) K)).1.plain = true := R.plain
    have bl := below_le R.tab (way t.mask (thash P w k) K)
    rw [List.length_map] at bl
    generalize SetTable.below t.place (way t.mask (thash P w k) K) = p at T1 hp2 bl
    generalize hpt : t.put (way t.mask (thash P w k) K) = pt at T1 hp2 m1 l1 p1 ⊢
    obtain ⟨t1, p'⟩ := pt
    dsimp only at T1 hp2 m1 l1 p1 ⊢
    subst hp2
    first
      | (refine wpAny_bind ?_; refine wp_if_pos p1 ?_; refine hashBy_tup hx ?_)
      | refine wp_if_pos p1 (wpAny_bind (hashBy_tup hx ?_))
    simp only [if_true]
    have rows : (SetTable.insertAt es p' (thash P w k, Value.ref x)).toList = rowsOf P w (L.take p' ++ (x, k) :: L.drop p') := by rw [SetTable.toList_insertAt, rows_put, R.rows]
    have pm := put_perm L p' (x, k)
    have hs : (L.take p' ++ (x, k) :: L.drop p').map (fun p => thash P w p.2) = (L.map fun p => thash P w p.2).take p' ++ thash P w k :: (L.map fun p => thash P w p.2).drop p' := by
      rw [List.map_append, List.map_cons, List.map_take, List.map_drop]
    rw [← hs] at T1
    generalize L.take p' ++ (x, k) :: L.drop p' = L1 at *
    have len : L1.length = L.length + 1 := pm.length_eq
    have sz : (SetTable.insertAt es p' (thash P w k, Value.ref x)).size = L.length + 1 := by
      have h := congrArg List.length rows
      unfold rowsOf at h
      rw [Array.length_toList, List.length_map, len] at h
      exact h
    generalize SetTable.insertAt es p' (thash P w k, Value.ref x) = es1 at *
    have nd1 : (L1.map (·.2)).Nodup := (pm.map (·.2)).nodup_iff.mpr (by rw [List.map_cons]; exact List.nodup_cons.mpr ⟨hm, R.nd⟩)
    refine wpAny_bind (wpAny_storeSet_of ho hd ?_ (by rw [sz, sizeLine_eq]; omega))
    have sb : Heap.SameBut a s.heap (s.heap.update a (Obj.putSet es1 t1)) := Heap.SameBut.update ..
    have ho1 := store_at (es' := es1) (t' := t1) ho hd
    generalize s.heap.update a (Obj.putSet es1 t1) = h1 at sb ho1 ⊢
    have tup1 : ∀ p ∈ L1, IsT P w h1 p.2 p.1 := fun p hp => by
      rcases List.mem_cons.mp (pm.mem_iff.mp hp) with e | hp
      · rw [e]; exact isT_same hx ho hd sb
      · exact isT_same (R.tup p hp) ho hd sb
    have ld1 : w.params.followText "set-order" = true ∨ t1.led = true := by rw [l1]; exact R.led
    have fl := T1.fill
    rw [List.length_map, len] at fl
    have mk := R.okM
    by_cases hf : t1.tooFull = true
    · have full : (L.length + 1) * 5 ≥ t.mask * 3 := by
        have h := hf
        unfold SetTable.tooFull at h
        rw [decide_eq_true_eq, fl, m1] at h
        exact h
      first
        | (refine wpAny_bind ?_; refine wp_if_pos (by simp [hf]) ?_)
        | (refine wp_if_pos (by simp [hf]) ?_; refine wpAny_bind ?_)
      rw [R.size]
      obtain ⟨s5, s19, s77, s307, s1229⟩ := grown_sizes
      have go : ∀ M, SetTable.sizeAbove (SetTable.grown (L.length + 1)) - 1 = M → Mk M → SetTable.sizeAbove (SetTable.grown (L.length + 1)) ≤ 8192 → (L.length + 1) * 5 < M * 3 → L.length + 1 ≤ t.mask →
          wpAny (model P w) A (setRelay a (SetTable.grown (L.length + 1))) (fun _ s' => wpAny (model P w) A (pure true) Q E s') E { s with heap := h1 } := fun M w1 w2 w3 w4 w5 => by
        refine relay_b (s := { s with heap := h1 }) ho1 ⟨hex.1, hex.2.1, hex.2.2⟩ rfl rows T1 (by rw [len, m1]; exact w5) nd1 tup1 p1 ld1 (by rw [len]; exact few) w1 w2 w3 (by rw [len]; exact w4) fun h2 L2 es2 ep2 t2 sb2 R2 pm2 => ?_
        exact wpAny_pure (q true h2 L2 es2 ep2 t2 (sb.trans sb2) R2 (fun z => absurd z hm) fun _ => pm2.trans pm)
      rcases mk with e | e | e | e | e | e <;> rw [e] at rm full
      · have n : L.length + 1 = 5 := by omega
        exact go 31 (by rw [n, s5]) (.inr (.inl rfl)) (by rw [n, s5]; decide) (by omega) (by omega)
      · have n : L.length + 1 = 19 := by omega
        exact go 127 (by rw [n, s19]) (.inr (.inr (.inl rfl))) (by rw [n, s19]; decide) (by omega) (by omega)
      · have n : L.length + 1 = 77 := by omega
        exact go 511 (by rw [n, s77]) (.inr (.inr (.inr (.inl rfl)))) (by rw [n, s77]; decide) (by omega) (by omega)
      · have n : L.length + 1 = 307 := by omega
        exact go 2047 (by rw [n, s307]) (.inr (.inr (.inr (.inr (.inl rfl))))) (by rw [n, s307]; decide) (by omega) (by omega)
      · have n : L.length + 1 = 1229 := by omega
        exact go 8191 (by rw [n, s1229]) (.inr (.inr (.inr (.inr (.inr rfl))))) (by rw [n, s1229]; decide) (by omega) (by omega)
      · omega
    · first
        | refine wp_if_neg (by simp [hf]) ?_
        | (refine wpAny_bind ?_; refine wp_if_neg (by simp [hf]) ?_; refine wpAny_pure ?_)
      refine wpAny_pure (q true h1 L1 es1 (ep + 1) t1 sb ⟨⟨_, ho1, ⟨hex.1, hex.2.1, hex.2.2⟩, rfl⟩, rows, T1, nd1, tup1, p1, ld1, ?_, by rw [m1]; exact mk, by rw [len]; exact few⟩ (fun z => absurd z hm) fun _ => pm)
      have h := hf
      unfold SetTable.tooFull at h
      rw [decide_eq_true_eq, fl] at h
      rw [len]
      omega
theorem SetB.keep {h h' : Heap} (R : SetB P w h a L es ep t) (ha : ∀ o, h.get? a = some o → h'.get? a = some o) (ht : ∀ p ∈ L, IsT P w h' p.2 p.1) : SetB P w h' a L es ep t := by
  obtain ⟨o, ho, r⟩ := R.ob
  exact ⟨⟨o, ha o ho, r⟩, R.rows, R.tab, R.nd, ht, R.plain, R.led, R.room, R.okM, R.few⟩
theorem set_none {h : Heap} (ho : h.get? a = some { cls := .type "set", dict := none, data := .set #[] 0 (.fresh 0 0 (!w.params.followText "set-order")) }) : SetB P w h a [] #[] 0 (.fresh 0 0 (!w.params.followText "set-order")) where
  ob := ⟨_, ho, ⟨rfl, rfl, rfl⟩, rfl⟩
  rows := rfl
  tab := ⟨List.Pairwise.nil, rfl, rfl, ⟨3, rfl⟩, fun x hx => (by cases hx), fun i h j hi => (by simp at hi)⟩
  nd := List.nodup_nil
  tup := fun p hp => (by cases hp)
  plain := rfl
  led := by
    show _ ∨ (!w.params.followText "set-order") = true
    cases w.params.followText "set-order"
    · exact .inr rfl
    · exact .inl rfl
  room := by show 0 * 5 < 7 * 3; decide
  okM := .inl rfl
  few := by show 0 < 4096; decide
end
end BS

namespace BS
open PySem PySem.Spec PyProof.Rows L2
section
variable {P : Program} {w : World} {A : Around} {E : Value → Shared → Prop} {s : Shared}
theorem feed_b {I : Addr} {fp wr : List Addr} {G : Array GenState → Array GenState → Prop} {n : Nat} {Pv : Nat → Value → Prop} {St : Nat → Shared → Prop} {R : Result → Shared → Prop}
    (W : WalksS P w A.in1 I fp wr G n Pv St) (S : Addr) (apart : S ∉ fp) (ks : List (Addr × List Int)) (hn : n = ks.length) (few : ∀ L : List (Addr × List Int), (L.map (·.2)).Nodup → (∀ p ∈ L, p ∈ ks) → L.length + 1 < 4096) (each : ∀ i v, Pv i v → ∃ p, ks[i]? = some p ∧ v = .ref p.1)
    (h0 : Heap) (hk : ∀ p ∈ ks, IsT P w h0 p.2 p.1) (noS : h0.get? S = none) (noW : ∀ b ∈ wr, h0.get? b = none) (hu : A.in1.units < cLine) :
    ∀ (k i : Nat) (s : Shared), n - i = k → i ≤ n → St i s → (∀ b o, h0.get? b = some o → s.heap.get? b = some o) → (∃ L es ep t, SetB P w s.heap S L es ep t ∧ Got ks i L) →
      (∀ s' L es ep t, Moved (S :: wr) G s s' → SetB P w s'.heap S L es ep t → Got ks n L → (∀ b o, h0.get? b = some o → s'.heap.get? b = some o) → R (.ok (.ret .none)) s') →
      codeAny (model P w) A (.builtin "set.update.loop" ⟨[.ref S, .ref I], []⟩) R s := by
  have Sw : S ∉ wr := fun h => apart (W.sub _ h)
  have up : ∀ b ∈ wr, b ∈ S :: wr := fun b hb => List.mem_cons_of_mem _ hb
  intro k
  induction k with
  | zero =>
    intro i s hki hi st old ⟨L, es, ep, t, B, g⟩ fin
    obtain rfl : i = n := by omega
    refine codeAny_builtin F.entry_set_update_loop ?_
    rw [Around.under_plainId F.plain_set_update_loop _]
    show wpAny _ A.in1 (pyNext (.ref I) >>= _) _ _ s
    refine wpAny_bind (W.done s _ _ st fun s' mv => ?_)
    have old' : ∀ b o, h0.get? b = some o → s'.heap.get? b = some o := fun b o e => mv.heap b o (fun hb => by rw [noW b hb] at e; cases e) (old b o e)
    show wpAny _ A.in1 (ret Value.none) _ _ s'
    exact wpAny_pure (fin s' L es ep t (mv.mono up) (B.keep (fun o e => mv.heap S o Sw e) fun p hp => isT_keep (hk p (List.mem_of_mem_take (g.sub p hp))) old') g old')
  | succ k ih =>
    intro i s hki hi st old ⟨L, es, ep, t, B, g⟩ fin
    refine codeAny_builtin F.entry_set_update_loop ?_
    rw [Around.under_plainId F.plain_set_update_loop _]
    show wpAny _ A.in1 (pyNext (.ref I) >>= _) _ _ s
    refine wpAny_bind (W.item i s _ _ (by omega) st fun v s1 pv st1 mv => ?_)
    obtain ⟨p, hp, rfl⟩ := each i v pv
    have old1 : ∀ b o, h0.get? b = some o → s1.heap.get? b = some o := fun b o e => mv.heap b o (fun hb => by rw [noW b hb] at e; cases e) (old b o e)
    have B1 : SetB P w s1.heap S L es ep t := B.keep (fun o e => mv.heap S o Sw e) fun q hq => isT_keep (hk q (List.mem_of_mem_take (g.sub q hq))) old1
    have hx : IsT P w s1.heap p.2 p.1 := isT_keep (hk p (List.mem_of_getElem? hp)) old1
    show wpAny _ A.in1 (holding [Value.ref p.1] (setAdd S (.ref p.1)) >>= _) _ _ s1
    refine wpAny_bind (wpAny_holding ?_)
    unfold setAdd
    refine wpAny_holding (wpAny_bind (wpAny_pyHash_tuple hu hx ?_))
    refine add_b (s := { s1 with toks := s1.toks + (p.2.length + 1) }) B1 hx hu (few L B.nd fun q hq => List.mem_of_mem_take (g.sub q hq)) fun b h2 L2 es2 ep2 t2 sb B2 c1 c2 => ?_
    have g2 : Got ks (i + 1) L2 := by
      by_cases c : p.2 ∈ L.map (·.2)
      · rw [c1 c]; exact g.same hp c
      · exact g.more hp (c2 c)
    have old2 : ∀ b o, h0.get? b = some o → h2.get? b = some o := fun b o e => (sb.2 b (fun z => by rw [z, noS] at e; cases e)).trans (old1 b o e)
    refine wpAny_pure ⟨plainId_quiet F.plain_set_update_loop _, ih (i + 1) _ (by omega) (by omega) (W.frame _ s1 _ _ st1 (Nat.le_add_right _ _) fun b hb o e => ?_) old2 ⟨L2, es2, ep2, t2, B2, g2⟩ fun s3 L3 es3 ep3 t3 mv3 B3 g3 old3 => ?_⟩
    · rw [sb.2 b (fun z : b = S => apart (z ▸ hb))]; exact e
    · refine fin s3 L3 es3 ep3 t3 (Moved.trans W.gtrans ((mv.mono up).then_heap (Nat.le_add_right _ _) fun b o hb e => ?_) mv3) B3 g3 old3
      rw [sb.2 b (fun z : b = S => hb (by rw [z]; exact List.mem_cons_self))]; exact e
abbrev noSet (w : World) : Obj := { cls := .type "set", dict := none, data := .set #[] 0 (.fresh 0 0 (!w.params.followText "set-order")) }
set_option maxHeartbeats 8000000 in
theorem set_of_tup_b {l : Addr} {items : Array Value} (ks : List (Addr × List Int)) {Q : Value → Shared → Prop} (hh : A.handled = none) (hl : s.heap.IsTuple l items) (hit : items.toList = ks.map fun p => Value.ref p.1)
    (hk : ∀ p ∈ ks, IsT P w s.heap p.2 p.1) (few : ∀ L : List (Addr × List Int), (L.map (·.2)).Nodup → (∀ p ∈ L, p ∈ ks) → L.length + 1 < 4096) (room : A.units + 3 < cLine)
    (done : ∀ (h' : Heap) (tk : Nat) L es ep t, SetB P w h' s.heap.objs.size L es ep t → Got ks ks.length L → (∀ b o, s.heap.get? b = some o → h'.get? b = some o) → Q (.ref s.heap.objs.size) { s with heap := h', toks := tk }) :
    wpAny (model P w) A (call (.type "set") [.ref l]) Q E s := by
  have sz : items.size = ks.length := by rw [← Array.length_toList, hit, List.length_map]
  obtain ⟨c, tl, mr⟩ := F.called_set.mro
  have md := F.called_set.made
  have sb := F.called_set.sub
  refine wpAny_call (codeAny_of_tree ?_)
  show wpAny _ _ (callAny (.type "set") _) _ _ _
  refine wpAny_pure ⟨Code.quiet_builtin _ (by decide +kernel), codeAny_builtin F.entry_type_call ?_⟩
  rw [Around.under_plain (weight_type_call_type "set" [.ref l] []) rfl]
  have nT := F.called_set.notType
  have cC := F.called_set.canCreate
  have tC1 := F.typeCall_set_1 (.ref l)
  repeat any_goals first | assumption | wp_step
  have e1 := code_set_led1 (P := P) (w := w) (A := A.in1) (s := s) (.ref l) (E := E) (Q₁ := fun u s1 => u = .ref s.heap.objs.size ∧ s1 = { s with heap := s.heap.push (noSet w) }) ⟨rfl, rfl⟩
  refine codeAny_mono e1 fun r s1 z => ?_
  match r, z with
  | .error e, z => exact z
  | .ok (.ret u), ⟨y1, y2⟩ =>
    subst y1 y2
    have gS : (s.heap.push (noSet w)).get? s.heap.objs.size = some (noSet w) := Heap.get?_push_size _ rfl
    have tS : Shared.TypeIs { s with heap := s.heap.push (noSet w) } (.ref s.heap.objs.size) "set" := ⟨_, gS, rfl⟩
    have lk := F.called_set.init.lookup
    have bd := F.called_set.init.bind (.ref s.heap.objs.size)
    repeat any_goals first | assumption | wp_step
    let Rz : Result → Shared → Prop := wants (fun r s2 => r = .none ∧ ∃ h' tk L es ep t, s2 = { s with heap := h', toks := tk } ∧ SetB P w h' s.heap.objs.size L es ep t ∧ Got ks ks.length L ∧ (∀ b o, s.heap.get? b = some o → h'.get? b = some o)) E
    refine codeAny_mono (codeAny_call_builtin (R := Rz) F.called_set.init.plain F.entry_set_init (check_set_init_1 tS ?walk)) fun r2 s2 z2 => ?back
    case back =>
      match r2, z2 with
      | .error e, z2 => exact z2
      | .ok (.ret r), ⟨y, h', tk, L, es, ep, t, y2, a1, a2, a3⟩ =>
        subst y y2
        repeat any_goals first | assumption | wp_step
        exact done _ _ _ _ _ _ a1 a2 a3
    case walk =>
      have hl0 := hl
      obtain ⟨ol, hol, hcl, nl, hdl⟩ := hl
      have lt := Heap.lt_size hol
      obtain ⟨ocls, odict, odata, oslots⟩ := ol
      simp only at hcl hdl
      subst hcl; subst hdl
      have gl : (s.heap.push (noSet w)).get? l = some { cls := .type "tuple", dict := odict, data := .seq items nl, slots := oslots } := Heap.get?_push_of_some _ hol
      have sb1 := F.sub_tuple_set
      have sb2 := F.sub_tuple_frozenset
      have nd : (Value.type "tuple" == Value.type "dict") = false := by decide
      have hl1 : (s.heap.push (noSet w)).IsTuple l items := hl0.push _
      unfold Builtin.«set.__init__» noKeywords Builtin.Frozenset.updateFrom
      generalize hp : pyIter = PI
      wp_walk
      subst hp
      refine wpAny_pyIter_tuple hl1 (wpAny_bind (wpAny_runValue ?_))
      have hz1 : (s.heap.push (noSet w)).objs.size = s.heap.objs.size + 1 := Heap.size_push ..
      have gone : ∀ b, s.heap.objs.size ≤ b → s.heap.get? b = none := fun b hb => by
        match q : s.heap.get? b with
        | none => rfl
        | some o => exact absurd (Heap.lt_size q) (Nat.not_lt.mpr hb)
      have ne1 : l ≠ (s.heap.push (noSet w)).objs.size := by rw [hz1]; exact Nat.ne_of_lt (Nat.lt_succ_of_lt lt)
      have ne2 : s.heap.objs.size ∉ [(s.heap.push (noSet w)).objs.size, l] := fun z => by
        rcases List.mem_cons.mp z with z | z
        · exact Nat.ne_of_lt (Nat.lt_succ_self _) (z.trans hz1)
        · exact Nat.ne_of_gt lt (List.mem_singleton.mp z)
      have each : ∀ (i : Nat) (v : Value), items[i]? = some v → ∃ p, ks[i]? = some p ∧ v = .ref p.1 := fun i v hv => by
        rw [← Array.getElem?_toList, hit, List.getElem?_map] at hv
        obtain ⟨p, e, z⟩ := Option.map_eq_some_iff.mp hv
        exact ⟨p, e, z.symm⟩
      refine feed_b ((Walks.tuple (A := A.in1.in1.in1) (by simp [hh]) _ l ne1 items).toS) s.heap.objs.size ne2 ks sz few each s.heap hk (gone _ (Nat.le_refl _)) (fun b hb => gone b (by rw [List.mem_singleton.mp hb, hz1]; exact Nat.le_succ _)) room
        (items.size - 0) 0 _ (by omega) (Nat.zero_le _) ⟨⟨_, Heap.get?_push_size _ rfl, rfl, rfl⟩, hl1.push _⟩ (fun b o e => Heap.get?_push_of_some _ (Heap.get?_push_of_some _ e)) ⟨[], #[], 0, _, set_none (Heap.get?_push_of_some _ gS), Got.zero ks⟩ ?_
      intro s3 L es ep t mv R g kp
      rw [sz] at g
      obtain ⟨h3, g3, d3, tk3, o3⟩ := s3
      have x1 : g3 = s.gens := mv.gens
      have x2 : d3 = s.drawn := mv.drawn
      have x3 : o3 = s.os := mv.os
      subst x1 x2 x3
      refine wpAny_pure ?_
      show wpAny _ _ (ret Value.none) _ _ _
      exact wpAny_pure ⟨rfl, h3, tk3, L, es, ep, t, rfl, R, g, kp⟩
set_option maxHeartbeats 8000000 in
theorem set_of_list_b {l : Addr} {items : Array Value} (ks : List (Addr × List Int)) {Q : Value → Shared → Prop} (hh : A.handled = none) (hl : s.heap.IsList l items) (hit : items.toList = ks.map fun p => Value.ref p.1)
    (hk : ∀ p ∈ ks, IsT P w s.heap p.2 p.1) (few : ∀ L : List (Addr × List Int), (L.map (·.2)).Nodup → (∀ p ∈ L, p ∈ ks) → L.length + 1 < 4096) (room : A.units + 3 < cLine)
    (done : ∀ (h' : Heap) (tk : Nat) L es ep t, SetB P w h' s.heap.objs.size L es ep t → Got ks ks.length L → (∀ b o, s.heap.get? b = some o → h'.get? b = some o) → Q (.ref s.heap.objs.size) { s with heap := h', toks := tk }) :
    wpAny (model P w) A (call (.type "set") [.ref l]) Q E s := by
  have sz : items.size = ks.length := by rw [← Array.length_toList, hit, List.length_map]
  obtain ⟨c, tl, mr⟩ := F.called_set.mro
  have md := F.called_set.made
  have sb := F.called_set.sub
  refine wpAny_call (codeAny_of_tree ?_)
  show wpAny _ _ (callAny (.type "set") _) _ _ _
  refine wpAny_pure ⟨Code.quiet_builtin _ (by decide +kernel), codeAny_builtin F.entry_type_call ?_⟩
  rw [Around.under_plain (weight_type_call_type "set" [.ref l] []) rfl]
  have nT := F.called_set.notType
  have cC := F.called_set.canCreate
  have tC1 := F.typeCall_set_1 (.ref l)
  repeat any_goals first | assumption | wp_step
  have e1 := code_set_led1 (P := P) (w := w) (A := A.in1) (s := s) (.ref l) (E := E) (Q₁ := fun u s1 => u = .ref s.heap.objs.size ∧ s1 = { s with heap := s.heap.push (noSet w) }) ⟨rfl, rfl⟩
  refine codeAny_mono e1 fun r s1 z => ?_
  match r, z with
  | .error e, z => exact z
  | .ok (.ret u), ⟨y1, y2⟩ =>
    subst y1 y2
    have gS : (s.heap.push (noSet w)).get? s.heap.objs.size = some (noSet w) := Heap.get?_push_size _ rfl
    have tS : Shared.TypeIs { s with heap := s.heap.push (noSet w) } (.ref s.heap.objs.size) "set" := ⟨_, gS, rfl⟩
    have lk := F.called_set.init.lookup
    have bd := F.called_set.init.bind (.ref s.heap.objs.size)
    repeat any_goals first | assumption | wp_step
    let Rz : Result → Shared → Prop := wants (fun r s2 => r = .none ∧ ∃ h' tk L es ep t, s2 = { s with heap := h', toks := tk } ∧ SetB P w h' s.heap.objs.size L es ep t ∧ Got ks ks.length L ∧ (∀ b o, s.heap.get? b = some o → h'.get? b = some o)) E
    refine codeAny_mono (codeAny_call_builtin (R := Rz) F.called_set.init.plain F.entry_set_init (check_set_init_1 tS ?walk)) fun r2 s2 z2 => ?back
    case back =>
      match r2, z2 with
      | .error e, z2 => exact z2
      | .ok (.ret r), ⟨y, h', tk, L, es, ep, t, y2, a1, a2, a3⟩ =>
        subst y y2
        repeat any_goals first | assumption | wp_step
        exact done _ _ _ _ _ _ a1 a2 a3
    case walk =>
      have hl0 := hl
      obtain ⟨ol, hol, hcl, nl, hdl⟩ := hl
      have lt := Heap.lt_size hol
      obtain ⟨ocls, odict, odata, oslots⟩ := ol
      simp only at hcl hdl
      subst hcl; subst hdl
      have gl : (s.heap.push (noSet w)).get? l = some { cls := .type "list", dict := odict, data := .seq items nl, slots := oslots } := Heap.get?_push_of_some _ hol
      have sb1 := F.sub_list_set
      have sb2 := F.sub_list_frozenset
      have nd : (Value.type "list" == Value.type "dict") = false := by decide
      have hl1 : (s.heap.push (noSet w)).IsList l items := hl0.push _
      unfold Builtin.«set.__init__» noKeywords Builtin.Frozenset.updateFrom
      generalize hp : pyIter = PI
      wp_walk
      subst hp
      refine wpAny_pyIter_list hl1 (wpAny_bind (wpAny_runValue ?_))
      have hz1 : (s.heap.push (noSet w)).objs.size = s.heap.objs.size + 1 := Heap.size_push ..
      have gone : ∀ b, s.heap.objs.size ≤ b → s.heap.get? b = none := fun b hb => by
        match q : s.heap.get? b with
        | none => rfl
        | some o => exact absurd (Heap.lt_size q) (Nat.not_lt.mpr hb)
      have ne1 : l ≠ (s.heap.push (noSet w)).objs.size := by rw [hz1]; exact Nat.ne_of_lt (Nat.lt_succ_of_lt lt)
      have ne2 : s.heap.objs.size ∉ [(s.heap.push (noSet w)).objs.size, l] := fun z => by
        rcases List.mem_cons.mp z with z | z
        · exact Nat.ne_of_lt (Nat.lt_succ_self _) (z.trans hz1)
        · exact Nat.ne_of_gt lt (List.mem_singleton.mp z)
      have each : ∀ (i : Nat) (v : Value), items[i]? = some v → ∃ p, ks[i]? = some p ∧ v = .ref p.1 := fun i v hv => by
        rw [← Array.getElem?_toList, hit, List.getElem?_map] at hv
        obtain ⟨p, e, z⟩ := Option.map_eq_some_iff.mp hv
        exact ⟨p, e, z.symm⟩
      refine feed_b ((Walks.list (A := A.in1.in1.in1) (by simp [hh]) _ l ne1 items).toS) s.heap.objs.size ne2 ks sz few each s.heap hk (gone _ (Nat.le_refl _)) (fun b hb => gone b (by rw [List.mem_singleton.mp hb, hz1]; exact Nat.le_succ _)) room
        (items.size - 0) 0 _ (by omega) (Nat.zero_le _) ⟨⟨_, Heap.get?_push_size _ rfl, rfl, rfl⟩, hl1.push _⟩ (fun b o e => Heap.get?_push_of_some _ (Heap.get?_push_of_some _ e)) ⟨[], #[], 0, _, set_none (Heap.get?_push_of_some _ gS), Got.zero ks⟩ ?_
      intro s3 L es ep t mv R g kp
      rw [sz] at g
      obtain ⟨h3, g3, d3, tk3, o3⟩ := s3
      have x1 : g3 = s.gens := mv.gens
      have x2 : d3 = s.drawn := mv.drawn
      have x3 : o3 = s.os := mv.os
      subst x1 x2 x3
      refine wpAny_pure ?_
      show wpAny _ _ (ret Value.none) _ _ _
      exact wpAny_pure ⟨rfl, h3, tk3, L, es, ep, t, rfl, R, g, kp⟩
end
end BS

namespace E3
open PySem PySem.Spec PyProof.Rows L2

structure Feed (prog : Program) (w : World) (A : Around) (i l : Addr) (xs : Array Value) (S : Nat → Heap → Prop) : Prop where
  ne : i ≠ l
  keep : ∀ {k h h'}, S k h → (∀ o, h.get? i = some o → h'.get? i = some o) → (∀ o, h.get? l = some o → h'.get? l = some o) → S k h'
  live : ∀ {k h}, S k h → ∃ o, h.get? i = some o
  item : ∀ {k s x} {Q : Value → Shared → Prop} {E : Value → Shared → Prop}, S k s.heap → xs[k]? = some x →
    (∀ h', S (k + 1) h' → Heap.SameBut i s.heap h' → Q x { s with heap := h' }) → wpAny (model prog w) A (Builtin.SmallTypes.nextOf (.ref i)) Q E s
  stop : ∀ {k s} {Q : Value → Shared → Prop} {E : Value → Shared → Prop}, S k s.heap → xs[k]? = none →
    (∀ h' e, Heap.ExtBut i s.heap h' → (∃ o, h'.get? e = some o ∧ o.cls = .type "StopIteration") → E (.ref e) { s with heap := h' }) → wpAny (model prog w) A (Builtin.SmallTypes.nextOf (.ref i)) Q E s
theorem feedL {prog : Program} {w : World} {A : Around} {i l : Addr} {xs : Array Value} (n : i ≠ l) (hh : A.handled = none) : Feed prog w A i l xs fun k h => h.IsListIter i l k ∧ h.IsList l xs where
  ne := n
  keep := fun st a b => ⟨st.1.at a, st.2.at b⟩
  live := fun st => st.1.elim fun o e => ⟨o, e.1⟩
  item := fun st e q => wpAny_nextOf_list_item st.1 st.2 e fun h' z sb => q h' ⟨z, st.2.at fun o p => sb.extBut _ _ n.symm p⟩ sb
  stop := fun st e q => wpAny_nextOf_list_end hh st.1 st.2 e q
theorem tuple_at {h h' : Heap} {a : Addr} {items : Array Value} (x : h.IsTuple a items) (e : ∀ o, h.get? a = some o → h'.get? a = some o) : h'.IsTuple a items := let ⟨o, ho, r⟩ := x; ⟨o, e _ ho, r⟩
theorem feedT {prog : Program} {w : World} {A : Around} {i l : Addr} {xs : Array Value} (n : i ≠ l) (hh : A.handled = none) : Feed prog w A i l xs fun k h => h.IsTupleIter i l k ∧ h.IsTuple l xs where
  ne := n
  keep := fun st a b => ⟨st.1.at a, tuple_at st.2 b⟩
  live := fun st => st.1.elim fun o e => ⟨o, e.1⟩
  item := fun st e q => RZ.nextOf_tuple_item st.1 st.2 e fun h' z sb => q h' ⟨z, tuple_at st.2 fun o p => sb.extBut _ _ n.symm p⟩ sb
  stop := fun st e q => RZ.nextOf_tuple_end hh st.1 st.2 e q

def ZipAt (z t u i j : Addr) (h : Heap) : Prop := IsZip h z t u .none ∧ IsPair h t (.ref i) (.ref j) ∧ ∃ a b, IsPair h u a b
section
variable {prog : Program} {w : World} {A : Around} {E : Value → Shared → Prop} {s : Shared} {z t u i j l m : Addr} {xs ys : Array Value} {S T : Nat → Heap → Prop} {p q : Nat}
theorem zip_asked (D : ZipApart z t u i j l m) (F : Feed prog w A i l xs S) (G : Feed prog w A j m ys T) (Z : ZipAt z t u i j s.heap) (hS : S p s.heap) (hT : T q s.heap) {Q : Fin → Shared → Prop}
    (yes : ∀ x y h', xs[p]? = some x → ys[q]? = some y → IsZip h' z t u (rawInt s.heap.objs.size) → IsPair h' u x y → S (p + 1) h' → T (q + 1) h' → IsPair h' s.heap.objs.size x y →
      (∀ c o, c ≠ z → c ≠ u → c ≠ i → c ≠ j → s.heap.get? c = some o → h'.get? c = some o) → Q (.done (.ret (.ref s.heap.objs.size))) { s with heap := h' })
    (no : ∀ h' e, (xs[p]? = none ∨ ys[q]? = none) → (∀ c o, c ≠ z → c ≠ u → c ≠ i → c ≠ j → s.heap.get? c = some o → h'.get? c = some o) → (∃ o, h'.get? e = some o ∧ o.cls = .type "StopIteration") → E (.ref e) { s with heap := h' }) :
    wpAny (model prog w) A (Builtin.«zip.__next__» ⟨[.ref z], []⟩) Q E s := by
  obtain ⟨hz, ht, a, b, hu⟩ := Z
  show wpAny _ _ (field (.ref z) 2 >>= _) _ _ _
  refine wpAny_bind (wpAny_field hz rfl (x := .bool false) rfl ?_)
  show wpAny _ _ (field (.ref z) 3 >>= _) _ _ _
  refine wpAny_bind (wpAny_field hz rfl (x := .ref t) rfl ?_)
  refine wpAny_bind (wpAny_seqItems ht rfl ?_)
  show wpAny _ _ (Builtin.SmallTypes.ownedTupleIsFree (.ref z) >>= _) _ _ _
  refine wpAny_bind ?_
  unfold Builtin.SmallTypes.ownedTupleIsFree
  refine wpAny_bind (wpAny_field hz rfl (x := .none) rfl (wpAny_pure ?_))
  simp only [if_true]
  refine wpAny_bind (wpAny_rule ?_)
  refine wpAny_bind (wpAny_field hz rfl (x := .ref u) rfl ?_)
  refine wpAny_bind (wpAny_setField_rec hz (by simp) fun g1 z1 d1 => ?_)
  replace z1 : IsZip g1 z t u .ellipsis := z1
  have k1 : ∀ c, c ≠ z → ∀ o, s.heap.get? c = some o → g1.get? c = some o := fun c n o e => d1.extBut _ _ n e
  have S1 : S p g1 := F.keep hS (k1 _ D.i1z) (k1 _ D.l1z)
  have T1 : T q g1 := G.keep hT (k1 _ D.i2z) (k1 _ D.l2z)
  have U1 : IsPair g1 u a b := k1 _ D.TOz _ hu
  refine wpAny_bind ?_
  simp only [List.zipIdx_cons, List.zipIdx_nil, List.forIn_cons, List.forIn_nil]
  refine wpAny_bind (wpAny_bind (wpAny_onRaise ?_))
  show wpAny _ _ (Builtin.SmallTypes.nextOf (.ref i) >>= _) _ _ _
  cases hx : xs[p]? with
  | none =>
    refine wpAny_bind (F.stop S1 hx fun g2 e d2 ⟨oe, he, ce⟩ => ?_)
    have z2 : IsZip g2 z t u .ellipsis := d2 _ _ D.i1z.symm z1
    have ez : e ≠ z := fun v => by subst v; rw [z2] at he; cases he; simp at ce
    exact wpAny_setField_rec z2 (by simp) fun g3 _ d3 => no g3 e (.inl hx) (fun c o n _ n2 _ v => d3.extBut _ _ n (d2 _ _ n2 (k1 c n o v))) ⟨oe, d3.extBut _ _ ez he, ce⟩
  | some x =>
    refine wpAny_bind (F.item S1 hx fun g2 S2 d2 => wpAny_pure ?_)
    have k2 : ∀ c, c ≠ i → ∀ o, g1.get? c = some o → g2.get? c = some o := fun c n o e => d2.extBut _ _ n e
    have U2 : IsPair g2 u a b := k2 _ D.TOi1 _ U1
    refine wpAny_bind (wpAny_seqItems U2 rfl ?_)
    refine wpAny_bind (wpAny_updateSeq_pair U2 fun g3 U3 d3 => ?_)
    replace U3 : IsPair g3 u x b := U3
    have k3 : ∀ c, c ≠ u → ∀ o, g2.get? c = some o → g3.get? c = some o := fun c n o e => d3.extBut _ _ n e
    have T3 : T q g3 := G.keep (G.keep T1 (k2 _ D.i12.symm) (k2 _ D.l2i1)) (k3 _ D.TOi2.symm) (k3 _ D.l2TO)
    have S3 : S (p + 1) g3 := F.keep S2 (k3 _ D.TOi1.symm) (k3 _ D.l1TO)
    have z3 : IsZip g3 z t u .ellipsis := k3 _ D.TOz.symm _ (k2 _ D.i1z.symm _ z1)
    have f3 : ∀ c o, c ≠ z → c ≠ u → c ≠ i → s.heap.get? c = some o → g3.get? c = some o := fun c o n1 n2 n3 e => k3 c n2 o (k2 c n3 o (k1 c n1 o e))
    have n3 : g3.objs.size = s.heap.objs.size := by rw [d3.1, d2.1, d1.1]
    refine wpAny_bind (wpAny_letGo (wpAny_pure ?_))
    refine wpAny_bind (wpAny_bind (wpAny_onRaise ?_))
    show wpAny _ _ (Builtin.SmallTypes.nextOf (.ref j) >>= _) _ _ _
    cases hy : ys[q]? with
    | none =>
      refine wpAny_bind (G.stop T3 hy fun g4 e d4 ⟨oe, he, ce⟩ => ?_)
      have z4 : IsZip g4 z t u .ellipsis := d4 _ _ D.i2z.symm z3
      have ez : e ≠ z := fun v => by subst v; rw [z4] at he; cases he; simp at ce
      exact wpAny_setField_rec z4 (by simp) fun g5 _ d5 => no g5 e (.inr hy) (fun c o n1 n2 n3 n4 v => d5.extBut _ _ n1 (d4 _ _ n4 (f3 c o n1 n2 n3 v))) ⟨oe, d5.extBut _ _ ez he, ce⟩
    | some y =>
      refine wpAny_bind (G.item T3 hy fun g4 T4 d4 => wpAny_pure ?_)
      have k4 : ∀ c, c ≠ j → ∀ o, g3.get? c = some o → g4.get? c = some o := fun c n o e => d4.extBut _ _ n e
      have U4 : IsPair g4 u x b := k4 _ D.TOi2 _ U3
      refine wpAny_bind (wpAny_seqItems U4 rfl ?_)
      refine wpAny_bind (wpAny_updateSeq_pair U4 fun g5 U5 d5 => ?_)
      replace U5 : IsPair g5 u x y := U5
      have k5 : ∀ c, c ≠ u → ∀ o, g4.get? c = some o → g5.get? c = some o := fun c n o e => d5.extBut _ _ n e
      have n5 : g5.objs.size = s.heap.objs.size := by rw [d5.1, d4.1, n3]
      have z5 : IsZip g5 z t u .ellipsis := k5 _ D.TOz.symm _ (k4 _ D.i2z.symm _ z3)
      have S5 : S (p + 1) g5 := F.keep (F.keep S3 (k4 _ D.i12) (k4 _ D.l1i2)) (k5 _ D.TOi1.symm) (k5 _ D.l1TO)
      have T5 : T (q + 1) g5 := G.keep T4 (k5 _ D.TOi2.symm) (k5 _ D.l2TO)
      have f5 : ∀ c o, c ≠ z → c ≠ u → c ≠ i → c ≠ j → s.heap.get? c = some o → g5.get? c = some o := fun c o n1 n2 n3 n4 e => k5 c n2 o (k4 c n4 o (f3 c o n1 n2 n3 e))
      refine wpAny_bind (wpAny_letGo (wpAny_pure (wpAny_pure ?_)))
      refine wpAny_bind (wpAny_seqItems U5 rfl ?_)
      refine wpAny_bind (wpAny_newTuple ?_)
      show wpAny _ _ (Builtin.SmallTypes.ownedTupleHandOut (.ref z) (.ref g5.objs.size) >>= _) _ _ _
      refine wpAny_bind ?_
      unfold Builtin.SmallTypes.ownedTupleHandOut
      have z6 : IsZip (g5.push { cls := .type "tuple", data := .seq #[x, y] }) z t u .ellipsis := Heap.get?_push_of_some _ z5
      refine wpAny_bind (wpAny_setField_rec z6 (by simp) fun g7 z7 d7 => ?_)
      replace z7 : IsZip g7 z t u (rawInt g5.objs.size) := z7
      refine wpAny_setField_rec z7 (by simp) fun g8 z8 d8 => ?_
      replace z8 : IsZip g8 z t u (rawInt g5.objs.size) := z8
      have k8 : ∀ c, c ≠ z → ∀ o, g5.get? c = some o → g8.get? c = some o := fun c n o e => d8.extBut _ _ n (d7.extBut _ _ n (Heap.get?_push_of_some _ e))
      have new : IsPair g8 g5.objs.size x y := by
        have nz : g5.objs.size ≠ z := Nat.ne_of_gt (Heap.lt_size z5)
        exact d8.extBut _ _ nz (d7.extBut _ _ nz (Heap.get?_push_size _ rfl))
      rw [n5] at z8 new
      refine wpAny_pure ?_
      show Q (.done (.ret (.ref g5.objs.size))) _
      rw [n5]
      exact yes x y g8 hx hy z8 (k8 _ D.TOz _ U5) (F.keep S5 (k8 _ D.i1z) (k8 _ D.l1z)) (G.keep T5 (k8 _ D.i2z) (k8 _ D.l2z)) new fun c o n1 n2 n3 n4 e => k8 c n1 o (f5 c o n1 n2 n3 n4 e)
theorem next_zip (D : ZipApart z t u i j l m) (W : Feed prog w A.in1 i l xs S) (G : Feed prog w A.in1 j m ys T) (Z : ZipAt z t u i j s.heap) (hS : S p s.heap) (hT : T q s.heap) {Q : Option Value → Shared → Prop}
    (yes : ∀ x y h', xs[p]? = some x → ys[q]? = some y → IsZip h' z t u (rawInt s.heap.objs.size) → IsPair h' u x y → S (p + 1) h' → T (q + 1) h' → IsPair h' s.heap.objs.size x y →
      (∀ c o, c ≠ z → c ≠ u → c ≠ i → c ≠ j → s.heap.get? c = some o → h'.get? c = some o) → Q (some (.ref s.heap.objs.size)) { s with heap := h' })
    (no : ∀ h', (xs[p]? = none ∨ ys[q]? = none) → (∀ c o, c ≠ z → c ≠ u → c ≠ i → c ≠ j → s.heap.get? c = some o → h'.get? c = some o) → Q none { s with heap := h' }) :
    wpAny (model prog w) A (pyNext (.ref z)) Q E s := by
  have hz : s.TypeIs (.ref z) "zip" := ⟨_, Z.1, rfl⟩
  unfold pyNext
  refine wpAny_bind (wpAny_attempt (wpAny_callSpecial?_slot (name := Str.ofString "__next__") hz F.slot_zip_next (wpAny_call_entry F.slot_zip_next hz F.entry_zip_next ?_ (F.args_zip_next_1 _))))
  refine zip_asked D W G Z hS hT (fun x y h' e1 e2 a1 a2 a3 a4 a5 a6 => ⟨_, rfl, wpAny_pure (yes x y h' e1 e2 a1 a2 a3 a4 a5 a6)⟩) fun h' e hn hk ⟨o, ho, hc⟩ => ?_
  exact wpAny_bind (wpAny_isInstance (T := "StopIteration") (b := true) ⟨o, ho, hc⟩ isSubtype_stop (wpAny_pure (no h' hn hk)))
end

abbrev zf1 (h : Heap) (l : Addr) : Heap := h.push { cls := .type "tuple_iterator", data := .fields #[.ref l, .int 0 0] }
abbrev zf2 (h : Heap) (l m : Addr) : Heap := (zf1 h l).push { cls := .type "list_iterator", data := .fields #[.ref m, .int 0 0] }
abbrev zf3 (h : Heap) (l m : Addr) : Heap := (zf2 h l m).push { cls := .type "tuple", data := .seq #[.ref h.objs.size, .ref (zf1 h l).objs.size] }
abbrev zf4 (h : Heap) (l m : Addr) : Heap := (zf3 h l m).push { cls := .type "tuple", data := .seq #[.none, .none] }
abbrev zf5 (h : Heap) (l m : Addr) : Heap := (zf4 h l m).push { cls := .type "zip", data := .fields #[.none, .bool false, .bool false, .ref (zf2 h l m).objs.size, .ref (zf3 h l m).objs.size] }
theorem zip_made (l m : Addr) (xs ys : Array Value) :
    Meets (Builtin.«zip.__new__» ⟨[.type "zip", .ref l, .ref m], []⟩) (fun _ R s => s.heap.IsTuple l xs ∧ s.heap.IsList m ys ∧ R (.ok (.ret (.ref (zf4 s.heap l m).objs.size))) { s with heap := zf5 s.heap l m }) :=
  .of_wp fun prog w A R s h => by
    obtain ⟨hp, g, d, tk, os⟩ := s; obtain ⟨p1, p2, h⟩ := h
    have hsub := sub_zip
    have q1 : Heap.IsTuple (Shared.heap ⟨hp, g, d, tk, os⟩) l xs := p1
    have q2 : Heap.IsList (Shared.heap ⟨zf1 hp l, g, d, tk, os⟩) m ys := Heap.IsList.push p2 _
    wp_walk using wpAny_pyIter_tuple q1, wpAny_pyIter_list q2
    exact ⟨_, rfl, h⟩
theorem zf_sizes (h : Heap) (l m : Addr) : (zf1 h l).objs.size = h.objs.size + 1 ∧ (zf2 h l m).objs.size = h.objs.size + 2 ∧ (zf3 h l m).objs.size = h.objs.size + 3 ∧ (zf4 h l m).objs.size = h.objs.size + 4 := by
  refine ⟨?_, ?_, ?_, ?_⟩ <;> simp [Heap.size_push]
theorem call_zipM {prog : Program} {w : World} {A : Around} {E : Value → Shared → Prop} {s : Shared} {l m : Addr} {xs ys : Array Value} {Q : Value → Shared → Prop} (p1 : s.heap.IsTuple l xs) (p2 : s.heap.IsList m ys)
    (h : ∀ h', ZipAt (s.heap.objs.size + 4) (s.heap.objs.size + 2) (s.heap.objs.size + 3) s.heap.objs.size (s.heap.objs.size + 1) h' → h'.IsTupleIter s.heap.objs.size l 0 → h'.IsListIter (s.heap.objs.size + 1) m 0 →
      (∀ c o, s.heap.get? c = some o → h'.get? c = some o) → Q (.ref (s.heap.objs.size + 4)) { s with heap := h' }) :
    wpAny (model prog w) A (call (.type "zip") [.ref l, .ref m]) Q E s := by
  refine callType_new F.called_zip (by decide) (F.typeCall_zip_2 _ _) (F.newCall_zip_2 _ _) (fun obj => F.args_object_init_3 obj _ _) F.entry_zip_new (zip_made l m xs ys) ⟨p1, p2, ?_⟩
  obtain ⟨s1, s2, s3, s4⟩ := zf_sizes s.heap l m
  have up : ∀ {g : Heap} {c o} (b : Obj), g.get? c = some o → (g.push b).get? c = some o := fun b e => Heap.get?_push_of_some b e
  have g5 : (zf5 s.heap l m).get? (zf4 s.heap l m).objs.size = some _ := Heap.get?_push_size _ rfl
  have g4 : (zf5 s.heap l m).get? (zf3 s.heap l m).objs.size = some _ := up _ (Heap.get?_push_size _ rfl)
  have g3 : (zf5 s.heap l m).get? (zf2 s.heap l m).objs.size = some _ := up _ (up _ (Heap.get?_push_size _ rfl))
  have g2 : (zf5 s.heap l m).get? (zf1 s.heap l).objs.size = some _ := up _ (up _ (up _ (Heap.get?_push_size _ rfl)))
  have g1 : (zf5 s.heap l m).get? s.heap.objs.size = some _ := up _ (up _ (up _ (up _ (Heap.get?_push_size _ rfl))))
  show _ ∧ _
  rw [s4, s2, s3] at g5
  rw [s2, s1] at g3
  rw [s3] at g4
  rw [s1] at g2
  rw [s4]
  exact ⟨⟨_, g5, rfl⟩, h _ ⟨g5, g3, _, _, g4⟩ ⟨_, g1, rfl, rfl⟩ ⟨_, g2, rfl, rfl⟩ fun c o e => up _ (up _ (up _ (up _ (up _ e))))⟩

def ItzM (K : PySem.W.Frag) (a b : Addr) : It :=
  ⟨fun i H => ∃ (xs ys : List V) (x y : V), SqT K H a xs ∧ SqL K H b ys ∧ xs[i]? = some x ∧ ys[i]? = some y,
    fun i H v H' => ∃ T x y, v = .ref T ∧ H T = none ∧ H' = upd H T (.tup [x, y]) ∧ (∀ xs, SqT K H a xs → xs[i]? = some x) ∧ ∀ ys, SqL K H b ys → ys[i]? = some y,
    fun i H => ∃ xs ys : List V, SqT K H a xs ∧ SqL K H b ys ∧ (xs.length ≤ i ∨ ys.length ≤ i)⟩
theorem turn_zipM {P : Program} {w : World} {K : PySem.W.Frag} {elts : List Expr} {kk : Nat} {tpos : Pos} {a b z t u i j : Addr} (D : ZipApart z t u i j a b) :
    Turn P w K (.Tuple elts kk tpos) (ItzM K a b) [z, t, u, i, j] z (fun k h => ZipAt z t u i j h ∧ h.IsTupleIter i a k ∧ h.IsListIter j b k) where
  mem := by simp
  obj := fun k h st c hc => by
    obtain ⟨⟨hz, ht, x, y, hu⟩, ⟨o1, e1, _, d1⟩, ⟨o2, e2, _, d2⟩⟩ := st
    rcases (by simpa using hc : c = z ∨ c = t ∨ c = u ∨ c = i ∨ c = j) with q | q | q | q | q <;> subst q
    · exact ⟨_, hz, fun v q => nomatch q⟩
    · exact ⟨_, ht, fun v q => nomatch q⟩
    · exact ⟨_, hu, fun v q => nomatch q⟩
    · exact ⟨o1, e1, fun v q => by rw [d1] at q; cases q⟩
    · exact ⟨o2, e2, fun v q => by rw [d2] at q; cases q⟩
  keep := fun k h h' st e => by
    obtain ⟨⟨hz, ht, x, y, hu⟩, h1, h2⟩ := st
    exact ⟨⟨e z (by simp) _ hz, e t (by simp) _ ht, x, y, e u (by simp) _ hu⟩, h1.at fun o q => e i (by simp) o q, h2.at fun o q => e j (by simp) o q⟩
  item := by
    intro X hP hw hK hc k pins s σ H E I hf st hg
    subst hP hw hK
    obtain ⟨Z, h1, h2⟩ := st
    obtain ⟨xs, ys, x, y, qx, qy, hx, hy⟩ := hg
    obtain ⟨its, rv, p, _⟩ := I.tuple qx
    obtain ⟨its2, rv2, p2, _⟩ := I.list qy
    obtain ⟨c1, hc1, r1⟩ := rv.get hx
    obtain ⟨c2, hc2, r2⟩ := rv2.get hy
    have hzl : z < s.heap.objs.size := Heap.lt_size Z.1
    have hd : X.A.in1.handled = none := I.ok.hd hc
    refine next_zip D (feedT D.l1i1.symm hd) (feedL D.l2i2.symm hd) Z (p := k) (q := k) ⟨h1, p⟩ ⟨h2, p2.isList⟩ (fun u1 u2 h' e1 e2 z' U' S' T' new hk => ?_) fun h' hn _ => ?_
    · have f1 : u1 = c1 := by
        have := hc1; simp at e1; rw [this] at e1; cases e1; rfl
      have f2 : u2 = c2 := by
        have := hc2; simp at e2; rw [this] at e2; cases e2; rfl
      subst f1 f2
      refine ⟨_, rfl, wpAny_letOwnedTupleGo_zip (s := { s with heap := h' }) z' fun h'' z'' sb => ?_⟩
      have new2 : h''.get? s.heap.objs.size = some { cls := .type "tuple", data := .seq #[u1, u2] } := (sb.2 _ (Nat.ne_of_gt hzl)).trans new
      have ok : ObjOk X.prog X.w (upd H s.heap.objs.size (.tup [x, y])) h'' s.heap.objs.size (.tup [x, y]) := ⟨by show 2 ≤ sizeLine; decide, [u1, u2], .cons r1 (.cons r2 .nil), ⟨_, new2, rfl, _, rfl⟩⟩
      have out : ∀ c o, c ∉ [z, t, u, i, j] → s.heap.get? c = some o → h''.get? c = some o := fun c o hb q => by
        have nz : c ≠ z := fun v => hb (by simp [v])
        exact (sb.2 c nz).trans (hk c o nz (fun v => hb (by simp [v])) (fun v => hb (by simp [v])) (fun v => hb (by simp [v])) q)
      have I1 : Inv X pins σ (upd H s.heap.objs.size (.tup [x, y])) { s with heap := h'' } := I.turnedNew (t' := s.toks) (ch := [z, t, u, i, j]) (fun c o hb q => out c o hb q) hf (Nat.le_refl _) ok
      refine ⟨.ref s.heap.objs.size, _, I1, rfl, ⟨_, x, y, rfl, I.hok.fresh (Nat.le_refl _), rfl, fun l hl => by rw [I.tuple_inj hl qx]; exact hx, fun l hl => by rw [I.list_inj hl qy]; exact hy⟩, ⟨⟨z'', ?_, u1, u2, ?_⟩, ?_, ?_⟩, fun c hcm => ?_⟩
      · exact (sb.2 _ D.TIz).trans (hk _ _ D.TIz D.TITO D.TIi1 D.TIi2 Z.2.1)
      · exact (sb.2 _ D.TOz).trans U'
      · exact S'.1.at fun o q => (sb.2 _ D.i1z).trans q
      · exact T'.1.at fun o q => (sb.2 _ D.i2z).trans q
      · obtain ⟨o, ho⟩ : ∃ o, s.heap.get? c = some o := by
          obtain ⟨hz, ht, x0, y0, hu⟩ := Z
          obtain ⟨o1, e1, _⟩ := h1
          obtain ⟨o2, e2, _⟩ := h2
          rcases (by simpa using hcm : c = z ∨ c = t ∨ c = u ∨ c = i ∨ c = j) with q | q | q | q | q <;> subst q
          · exact ⟨_, hz⟩
          · exact ⟨_, ht⟩
          · exact ⟨_, hu⟩
          · exact ⟨_, e1⟩
          · exact ⟨_, e2⟩
        rw [upd_ne (Nat.ne_of_lt (Heap.lt_size ho))]
        exact (hf c hcm).1
    · exfalso
      rcases hn with q | q
      · simp at q
        have := (List.getElem?_eq_some_iff.mp hc1).1
        omega
      · simp at q
        have := (List.getElem?_eq_some_iff.mp hc2).1
        omega
  done := by
    intro X hP hw hK hc k pins s σ H E I hf st hg
    subst hP hw hK
    obtain ⟨Z, h1, h2⟩ := st
    obtain ⟨xs, ys, qx, qy, hend⟩ := hg
    obtain ⟨its, rv, p, _⟩ := I.tuple qx
    obtain ⟨its2, rv2, p2, _⟩ := I.list qy
    have l1 := rv.length
    have l2 := rv2.length
    have hd : X.A.in1.handled = none := I.ok.hd hc
    refine next_zip D (feedT D.l1i1.symm hd) (feedL D.l2i2.symm hd) Z (p := k) (q := k) ⟨h1, p⟩ ⟨h2, p2.isList⟩ (fun u1 u2 h' e1 e2 _ _ _ _ _ _ => ?_) fun h' _ hk => ?_
    · exfalso
      simp at e1 e2
      have a1 := (List.getElem?_eq_some_iff.mp e1).1
      have a2 := (List.getElem?_eq_some_iff.mp e2).1
      rcases hend with q | q <;> omega
    · exact ⟨rfl, I.turnedL (t' := s.toks) (ch := [z, t, u, i, j]) (fun c o hb q => hk c o (fun v => hb (by simp [v])) (fun v => hb (by simp [v])) (fun v => hb (by simp [v])) (fun v => hb (by simp [v])) q) hf⟩
  self := fun A k s Q E st h => wpAny_pyIter_zip st.1.1 h

def iZipM (K : PySem.W.Frag) (ta : TA) : TI := fun σ H R => ta σ H fun vs H1 => ∃ a b xs ys, vs = [.ref a, .ref b] ∧ SqT K H1 a xs ∧ SqL K H1 b ys ∧ R (ItzM K a b) H1
theorem pi_zipM {X : Cx} {e e2 : Expr} {ta : TA} {p pos tpos : Pos} {elts : List Expr} {kk : Nat} (hg : Gl X "zip") (hm : X.mg "zip" = none) (ha : PA X [e, e2] ta)
    (hs : starEach [e, e2] X.env = (false, eval e X.env) :: starEach [e2] X.env := by rfl) (hpl : (backTo pos (starEach [e2] X.env)).any (·.1) = false := by rfl) :
    PI X (.Tuple elts kk tpos) (.Call (.Name "zip" p) [e, e2] [] pos) (iZipM X.K ta) := by
  refine ⟨fun pins s σ H R I h => ?_⟩
  refine Call_ (ld_blt I hg hm PyProof.Rows.boot_zip (PyProof.Rows.callWith_type1 (thn (ha.run pos pins s σ H _ I h) fun us s1 ⟨vs, H1, I1, r1, q1⟩ => ?_) hs hpl))
  obtain ⟨a, b, xs, ys, rfl, qx, qy, q⟩ := q1
  cases r1 with
  | cons r rr => cases rr with
    | cons r' rr =>
      cases rr; cases r; cases r'
      obtain ⟨its, rv, p1, _⟩ := I1.tuple qx
      obtain ⟨its2, rv2, p2, _⟩ := I1.list qy
      obtain ⟨o1, ho1, _⟩ := id p1
      refine call_zipM (show s1.heap.IsTuple a its.toArray from p1) p2.isList fun h' Z h1 h2 hk => wpAny_pyIter_zip Z.1 ?_
      have I2 : Inv X pins σ H1 { s1 with heap := h' } := I1.kept (t' := s1.toks) hk
      refine ⟨s1.heap.objs.size + 4, [s1.heap.objs.size + 4, s1.heap.objs.size + 2, s1.heap.objs.size + 3, s1.heap.objs.size, s1.heap.objs.size + 1], _, _, H1, rfl, I2, turn_zipM (PySem.W.ktu_apart s1.heap.objs.size a b (Heap.lt_size ho1) p2.lt), ⟨Z, h1, h2⟩, fun c hcm => ?_, q⟩
      have hle : s1.heap.objs.size ≤ c := by
        have := hcm
        simp only [List.mem_cons, List.not_mem_nil, or_false] at this
        rcases this with v | v | v | v | v <;> subst v <;> first | exact Nat.le_refl _ | exact Nat.le_add_right _ _
      exact I1.fpOk hle (I1.hok.fresh hle)

def zipMR : List D → Res (List D)
  | [.tuple xs, .list ys] => .ok (zipD xs ys)
  | _ => .stuck
theorem walk_zipM {K : PySem.W.Frag} {R : Hp} {a b : Addr} {xs ys : List V} {ds es : List D} (h : R a = some (.tup xs)) (q : RpA K R xs ds) (h' : LsQ K R b ys) (q' : RpA K R ys es) : Walk K (ItzM K a b) R (zipD ds es) := fun R' H' s1 s2 => by
  have hA : SqT K H' a xs := SqT.of (s2 _ _ (s1 _ _ h))
  have hB : SqL K H' b ys := (ls_same s2 (ls_same s1 h')).sq
  refine ⟨fun i d hd => ?_, xs, ys, hA, hB, by rw [zipD_len, q.length, q'.length]; omega⟩
  obtain ⟨x, y, hx, hy, rfl⟩ := zipD_get ds es i d hd
  obtain ⟨v, z1, z2⟩ := q.get hx
  obtain ⟨u, z3, z4⟩ := q'.get hy
  refine ⟨⟨xs, ys, v, u, hA, hB, z1, z3⟩, fun w H'' k => ?_⟩
  obtain ⟨T, x', y', rfl, nT, rfl, k1, k2⟩ := k
  have e1 := k1 xs hA
  have e2 := k2 ys hB
  rw [z1] at e1; cases e1
  rw [z3] at e2; cases e2
  exact new_pair s2 nT (z2.mono s1) (z4.mono s1)
section
variable {X : Cx} {E : WX} {e e' : Expr} {p pos tpos : Pos} {elts : List Expr} {kk : Nat} {ga : DS → Res (List D)}
theorem di_zipM (hg : Gl X "zip") (hm : X.mg "zip" = none) (ha : DA X E [e, e'] ga) (hs : starEach [e, e'] X.env = (false, eval e X.env) :: starEach [e'] X.env := by rfl) (hpl : (backTo pos (starEach [e'] X.env)).any (·.1) = false := by rfl) :
    DI X E (.Tuple elts kk tpos) (.Call (.Name "zip" p) [e, e'] [] pos) (fun σ => (ga σ).bind zipMR) := by
  obtain ⟨t, a1, a2⟩ := ha
  refine ⟨_, pi_zipM hg hm a1 hs hpl, fun σ τ R H Rq hs s q => a2 σ τ R H _ hs s (post_bind s q fun d v R1 H1 x1 q1 h1 => ?_)⟩
  unfold zipMR at h1
  split at h1
  · obtain ⟨v, w, rfl, r, r'⟩ := two_inv q1
    cases r with
    | tup g1 g2 => cases r' with
      | lst g3 g4 => exact ⟨_, _, _, _, rfl, SqT.of (x1.sub _ _ g1), (ls_same x1.sub g3).sq, Post.now x1.sub (walk_zipM g1 g2 g3 g4) h1⟩
  · exact h1.elim
end
end E3

namespace E3
open PySem PySem.Spec PyProof.Rows L2

theorem walk_e3 {l : PySem.W.OpenLaw} {k : Nat} {q : Program} {loose : List Str} {XP : (Str → Option Value) → Heap → Prop} {YP : World → Heap → Prop} {d : DefRec} {K : Params → PySem.W.Frag} {FL : List D → Res D}
    (hn : l.most = some 63) (hdf : d.params.defaults = []) (hr : Room k callerA) (hY : ∀ (w : World) (h : Heap), YP w h → (K w.params).In h)
    (F : ∀ (w : World) (mg : Str → Option Value) (fa : Addr) (h : Heap), (K w.params).In h → h.Ns mainGlobals mg → mg d.name = some (.ref fa) →
      ∃ fd : FuncData, (∀ (s : Shared) (u : Value), BindsTo s fd ⟨[u], []⟩ [("script", u)]) ∧ ∀ base : Heap, (K w.params).In base → base.Ns mainGlobals mg → FnD l.prog w (K w.params) mg base k fa fd ["script"] FL)
    (hF : ∀ ns : List Int, ns.length ≤ 63 → FL [.list (ns.map .int)] = .ok (.bool true)) :
    PySem.W.WalkO q loose XP YP l.row.toRowW d [] (fun f vs => PySem.call f vs) := by
  refine Att.attach_call hn hdf fun w s₀ s₁ mg mb fa o pm cd doc a vs ns G Y ho hd hcd hmg hobj hints hlen hg => ?_
  have KX := hY w _ Y
  obtain ⟨fd, hb, hFn⟩ := F w mg fa _ KX G.T.g hmg
  refine law_call (CX := L2.CX l.prog w) (sp := fun vs H Q _ => vs = [.ref a] ∧ SqL (K w.params) H a (ns.map V.int) ∧ ∀ H', Q (.bl true) H') KX G.T.g G.T.b G.T.builtins G.T.nolimit hg hobj hints (Nat.le_trans hlen (by decide)) hr
    (fun base h1 h2 => (hFn base h1 h2).imp fun us H Q Ex h => ?_) hb (fun H _ hS => ⟨rfl, hS, fun _ => rfl⟩) (fun H e s' z => ?_)
  · obtain ⟨rfl, hS, hQ⟩ := h
    have hL : LsQ (K w.params) H a (ns.map V.int) := by
      rcases hS with hS | ⟨ob, its, n, h1, h2, h3, h4, h5, h6⟩
      · exact .inl hS
      · have e := KX a ob h1
        rw [hobj] at e
        cases e
        cases h4
        exact .inr ⟨_, _, h1, h5, h6⟩
    refine ⟨rfl, H, [.list (ns.map .int)], Same.refl _, .cons (.lst hL (RpA.ints ns)) .nil, ?_⟩
    rw [hF ns hlen]
    intro v R' H' _ r
    cases r
    exact hQ H'
  · obtain ⟨_, _, _, _, _, _, _, _, _, _, _, _, w⟩ := z
    exact w
theorem hu64 {A : Around} {k : Nat} (hr : Room k A) : A.units + 64 < cLine := by have := hr.un; omega
theorem hu65 {A : Around} {k : Nat} (hr : Room k A) : A.units + 65 < cLine := by have := hr.un; omega
theorem hu70 {A : Around} {k : Nat} (hr : Room k A) : A.units + 70 < cLine := by have := hr.un; omega
end E3

namespace E3
open PySem PySem.Spec PyProof.Rows L2
section
variable {X : Cx} {E : WX} {a b : Expr} {f g : DS → Res D} {pos p p2 pos2 : Pos}
def rgD (i j : Int) : Res D := if (-(2 ^ 62) ≤ i ∧ i < 2 ^ 62 ∧ -(2 ^ 62) ≤ j ∧ j < 2 ^ 62 ∧ (j - i).toNat ≤ 2 ^ 24) then .ok (.list (rangeD i j)) else .stuck
def rgL1 : D → Res D
  | .int n => rgD 0 n
  | _ => .stuck
def rgL2 : D → D → Res D
  | .int i, .int j => rgD i j
  | _, _ => .stuck
theorem rp_rg {K : PySem.W.Frag} {R : Hp} (i j : Int) : RpA K R (rgV i j) (rangeD i j) := by
  unfold rgV rangeD
  generalize List.range (j - i).toNat = l
  induction l with
  | nil => exact .nil
  | cons n l ih => exact .cons (Rp.int _) ih
theorem rgD_run {K : PySem.W.Frag} {mg : Str → Option Value} {Ex : XK} {R H : Hp} {Q : VK} {i j : Int} (s : Same R H) (h : PostN K mg Ex R H Q (rgD i j)) : RgOk i j ∧ ∀ q, H q = none → Q (.ref q) (upd H q (.lst (rgV i j))) := by
  unfold rgD at h
  split at h
  · rename_i hl
    exact ⟨hl, fun q hq => new_own (rp_rg i j) s hq h⟩
  · exact h.elim
theorem dn_listRg1 (hc : X.calm = true) (hg : Gl X "list") (hm : X.mg "list" = none) (hg2 : Gl X "range") (hm2 : X.mg "range" = none) (he : DE X E a f)
    (na : starEach [a] X.env = (false, eval a X.env) :: starEach [] X.env := by rfl) (nb : starEach [.Call (.Name "range" p2) [a] [] pos2] X.env = (false, eval (.Call (.Name "range" p2) [a] [] pos2) X.env) :: starEach [] X.env := by rfl) :
    DN X E (.Call (.Name "list" p) [.Call (.Name "range" p2) [a] [] pos2] [] pos) (e1 rgL1 f) := by
  obtain ⟨t, a1, a2⟩ := he
  refine ⟨_, pe_listRg hc hg hm (prg_1 hg2 hm2 a1 na) nb, fun σ τ R H Q hs s h => a2 σ τ R H _ hs s (post_bindN h fun d v R1 H1 x1 q1 k => ?_)⟩
  cases q1 with
  | int n => exact ⟨n, rfl, rgD_run x1.sub k⟩
  | _ => exact k.elim
end
end E3

namespace E3
open PySem PySem.Spec PyProof.Rows L2
section
variable {X : Cx} {E : WX} {a b c : Expr} {f g k : DS → Res D} {pos : Pos}
theorem de_chain {op op' : CmpOp} {o o' : D → D → Res D} (ho : OpD X (compareOp op) o) (ho' : OpD X (compareOp op') o') (ha : DE X E a f) (hb : DE X E b g) (hc : DE X E c k)
    (hm : lastMarks [op, op'] [b, c] = false := by with_unfolding_all rfl) : DE X E (.Compare a [op, op'] [b, c] pos) (eChain o o' f g k) := by
  obtain ⟨r, hr, q⟩ := ho
  obtain ⟨r', hr', q'⟩ := ho'
  obtain ⟨ta, pa, qa⟩ := ha
  obtain ⟨tb, pb, qb⟩ := hb
  obtain ⟨tc, pc, qc⟩ := hc
  refine ⟨_, pe_chain hr hr' pa pb pc hm, fun σ τ R H Q hs s h => ?_⟩
  refine qa σ τ R H _ hs s (post_bind s h fun x v R1 H1 e1 q1 h1 => ?_)
  refine qb σ τ R1 H1 _ (hs.mono e1.rr) e1.sub (post_bind e1.sub h1 fun y w R2 H2 e2 q2 h2 => ?_)
  refine q v w x y R2 H2 _ _ (q1.mono e2.rr) q2 e2.sub (post_bind e2.sub h2 fun z u R3 H3 e3 q3 h3 => ?_)
  cases q3 with
  | bl bb =>
    refine ⟨bb, rfl, ?_⟩
    cases bb with
    | false => exact Post.now e3.sub (Rp.bl false) h3
    | true =>
      have hs3 : RS X.K R3 σ τ := ((hs.mono e1.rr).mono e2.rr).mono e3.rr
      exact qc σ τ R3 H3 _ hs3 e3.sub (post_bind e3.sub h3 fun t t' R4 H4 e4 q4 h4 => q' w t' y t R4 H4 Q _ ((q2.mono e3.rr).mono e4.rr) q4 e4.sub h4)
  | _ => exact h3.elim
end
end E3

namespace E3
open PySem PySem.Spec PyProof.Rows L2
def strsOf : List D → Option (List Str)
  | [] => some []
  | .str z :: r => (strsOf r).map (z :: ·)
  | _ :: _ => none
theorem strs_run {K : PySem.W.Frag} {R : Hp} : ∀ {vs : List V} {ds : List D} {ys : List Str}, RpA K R vs ds → strsOf ds = some ys → vs = ys.map V.str
  | _, _, _, .nil, h => by cases h; rfl
  | _, _, ys, .cons (d := .str z) (ds := ds) h r, q => by
    have q' : (strsOf ds).map (z :: ·) = some ys := q
    cases e : strsOf ds with
    | none => rw [e] at q'; cases q'
    | some cs =>
      rw [e] at q'
      cases q'
      cases h
      rw [strs_run r e]; rfl
  | _, _, _, .cons (d := .none) _ _, q => by cases q
  | _, _, _, .cons (d := .int _) _ _, q => by cases q
  | _, _, _, .cons (d := .bool _) _ _, q => by cases q
  | _, _, _, .cons (d := .list _) _ _, q => by cases q
  | _, _, _, .cons (d := .tuple _) _ _, q => by cases q
  | _, _, _, .cons (d := .dict _) _ _, q => by cases q
def joinL (a : Str) (ds : List D) : Res D := match strsOf ds with
  | some ys => if (ys.map (·.length)).sum + ys.length * a.length ≤ 16777216 then .ok (.str (Txt.join a ys)) else .stuck
  | none => .stuck
def joinD (a : Str) : D → Res D
  | .list ds => joinL a ds
  | .tuple ds => joinL a ds
  | _ => .stuck
def eJoin (f g : DS → Res D) : DS → Res D := fun σ => (f σ).bind fun x => match x with
  | .str a => (g σ).bind (joinD a)
  | _ => .stuck
section
variable {X : Cx} {E : WX} {o e : Expr} {f g : DS → Res D} {pos apos : Pos}
theorem joinL_run {K : PySem.W.Frag} {mg : Str → Option Value} {Ex : XK} {R H : Hp} {Q : VK} {a : Str} {vs : List V} {ds : List D} (s : Same R H) (r : RpA K R vs ds) (h : Post K mg Ex (rV K) R H Q (joinL a ds)) :
    ∃ ys : List Str, vs = ys.map V.str ∧ (ys.map (·.length)).sum + ys.length * a.length ≤ 16777216 ∧ Q (.str (Txt.join a ys)) H := by
  unfold joinL at h
  split at h
  · rename_i ys hy
    split at h
    · rename_i hl
      exact ⟨ys, strs_run r hy, hl, Post.now s (Rp.str _) h⟩
    · exact h.elim
  · exact h.elim
theorem de_join (ho : DE X E o f) (he : DE X E e g) (hs : starEach [e] X.env = [(false, eval e X.env)] := by rfl) (hbase : attributeBase o "join" X.env (eval o X.env) = eval o X.env := by rfl) (hline : (apos.endLine == pos.line) = true := by rfl) :
    DE X E (.Call (.Attribute o "join" apos) [e] [] pos) (eJoin f g) := by
  obtain ⟨t, a1, a2⟩ := ho
  obtain ⟨u, b1, b2⟩ := he
  refine ⟨_, pe_join a1 b1 hs hbase hline, fun σ τ R H Q hs s h => a2 σ τ R H _ hs s (post_bind s h fun d v R1 H1 x1 q1 k => ?_)⟩
  cases q1 with
  | str a =>
    refine ⟨⟨a, rfl⟩, b2 σ τ R1 H1 _ (hs.mono x1.rr) x1.sub (post_bind x1.sub k fun y w R2 H2 x2 q2 k2 => ?_)⟩
    cases q2 with
    | lst h1 r1 =>
      obtain ⟨ys, e1, e2, e3⟩ := joinL_run x2.sub r1 k2
      subst e1
      exact ⟨a, _, ys, rfl, rfl, .inl (ls_same x2.sub h1).sq, e2, e3⟩
    | tup h1 r1 =>
      obtain ⟨ys, e1, e2, e3⟩ := joinL_run x2.sub r1 k2
      subst e1
      exact ⟨a, _, ys, rfl, rfl, .inr (SqT.of (x2.sub _ _ h1)), e2, e3⟩
    | _ => exact k2.elim
  | _ => exact k.elim
end
end E3

namespace E3
open PySem PySem.Spec PyProof.Rows L2
def overI (o : List Int → Res D) : List D → Res D
  | [.list ds] => match intsOf ds with
    | some ns => o ns
    | none => .stuck
  | _ => .stuck
def sumD : List D → Res D := overI fun ns => .ok (.int ns.sum)
def best (c : Int → Int → Bool) : List Int → Res D
  | [] => .stuck
  | n :: ns => .ok (.int (ns.foldl (fun a b => if c a b then b else a) n))
def maxLD : List D → Res D := overI (best fun a b => decide (a < b))
def minLD : List D → Res D := overI (best fun a b => decide (b < a))
def absD : List D → Res D
  | [.int i] => .ok (.int (if i < 0 then -i else i))
  | _ => .stuck
section
variable {X : Cx}
theorem overI_run {o : List Int → Res D} {K : PySem.W.Frag} {mg : Str → Option Value} {Ex : XK} {R H : Hp} {Q : VK} {vs : List V} {ds : List D} (r : RpA K R vs ds) (s : Same R H) (h : Post K mg Ex (rV K) R H Q (overI o ds)) : ∃ a ns, vs = [.ref a] ∧ SqL K H a (ns.map V.int) ∧ Post K mg Ex (rV K) R H Q (o ns) := by
  match ds, r, h with
  | [.list es], r, h =>
    obtain ⟨v, rfl, q⟩ := one_inv r
    cases q with
    | lst g1 g2 =>
      rename_i aa xs
      simp only [overI] at h
      split at h
      · rename_i ns hn
        have e := intsOf_inv hn
        subst e
        have e2 := g2.ints_inv
        subst e2
        exact ⟨_, ns, rfl, (ls_same s g1).sq, h⟩
      · exact h.elim
  | [], _, h => exact h.elim
  | [.none], _, h => exact h.elim
  | [.bool _], _, h => exact h.elim
  | [.int _], _, h => exact h.elim
  | [.str _], _, h => exact h.elim
  | [.tuple _], _, h => exact h.elim
  | [.dict _], _, h => exact h.elim
  | d1 :: _ :: _, _, h => cases d1 <;> exact h.elim
theorem cd_sum (hc : X.calm = true) : CallD X (.builtin "sum") sumD := ⟨_, cr_sum hc, fun vs ds R H Q Ex r s h => by
  obtain ⟨a, ns, e, l, q⟩ := overI_run r s h
  exact ⟨a, ns, e, l, Post.now s (Rp.int _) q⟩⟩
theorem best_of {c : Int → Int → Bool} (tot : ∀ a b, c a b = false → c b a = true ∨ a = b) (tr : ∀ a b d, c b a = false → c d b = false → c d a = false) (ir : ∀ a, c a a = false) (asy : ∀ a b, c a b = true → c b a = false) : ∀ (ns : List Int) (n m : Int), m ∈ n :: ns → (∀ y ∈ n :: ns, c m y = false) → ns.foldl (fun a b => if c a b then b else a) n = m
  | [], n, m, hm, _ => (List.mem_singleton.mp hm).symm
  | x :: ns, n, m, hm, hy => by
    rw [List.foldl_cons]
    refine best_of tot tr ir asy ns _ m ?_ fun y hy2 => ?_
    · rcases List.mem_cons.mp hm with e | hm
      · subst e
        have := hy x (List.mem_cons_of_mem _ List.mem_cons_self)
        rw [this]; exact List.mem_cons_self
      · rcases List.mem_cons.mp hm with e | hm
        · subst e
          have h1 := hy n List.mem_cons_self
          by_cases z : c n m = true
          · rw [if_pos z]; exact List.mem_cons_self
          · rw [if_neg z]
            rcases tot n m (by simpa using z) with z2 | z2
            · rw [h1] at z2; cases z2
            · rw [z2]; exact List.mem_cons_self
        · exact List.mem_cons_of_mem _ hm
    · rcases List.mem_cons.mp hy2 with e | hy2
      · rw [e]
        by_cases z : c n x = true
        · rw [if_pos z]; exact hy x (List.mem_cons_of_mem _ List.mem_cons_self)
        · rw [if_neg z]; exact hy n List.mem_cons_self
      · exact hy y (List.mem_cons_of_mem _ (List.mem_cons_of_mem _ hy2))
theorem cd_maxL (hc : X.calm = true) : CallD X (.builtin "max") maxLD := ⟨_, cr_max hc, fun vs ds R H Q Ex r s h => by
  obtain ⟨a, ns, e, l, q⟩ := overI_run r s h
  cases ns with
  | nil => exact q.elim
  | cons n ns =>
    refine ⟨a, n :: ns, e, l, by rw [List.length_cons]; omega, fun m hm hy => ?_⟩
    have b := best_of (c := fun a b => decide (a < b)) (fun a b z => by simp at z ⊢; omega) (fun a b d z y => by simp at z y ⊢; omega) (fun a => by simp) (fun a b z => by simp at z ⊢; omega) ns n m hm fun y hy2 => by have := hy y hy2; simp; omega
    have q' := Post.now (v := .int m) s (by rw [← b]; exact Rp.int _) q
    exact q'⟩
theorem cd_minL (hc : X.calm = true) : CallD X (.builtin "min") minLD := ⟨_, cr_min hc, fun vs ds R H Q Ex r s h => by
  obtain ⟨a, ns, e, l, q⟩ := overI_run r s h
  cases ns with
  | nil => exact q.elim
  | cons n ns =>
    refine ⟨a, n :: ns, e, l, by rw [List.length_cons]; omega, fun m hm hy => ?_⟩
    have b := best_of (c := fun a b => decide (b < a)) (fun a b z => by simp at z ⊢; omega) (fun a b d z y => by simp at z y ⊢; omega) (fun a => by simp) (fun a b z => by simp at z ⊢; omega) ns n m hm fun y hy2 => by have := hy y hy2; simp; omega
    have q' := Post.now (v := .int m) s (by rw [← b]; exact Rp.int _) q
    exact q'⟩
theorem cd_abs : CallD X (.builtin "abs") absD := ⟨_, call_abs, fun vs ds R H Q Ex r s h => by
  match ds, r, h with
  | [.int i], r, h =>
    obtain ⟨v, rfl, q⟩ := one_inv r
    cases q
    exact ⟨i, rfl, Post.now s (Rp.int _) h⟩
  | [], _, h => exact h.elim
  | [.none], _, h => exact h.elim
  | [.bool _], _, h => exact h.elim
  | [.list _], _, h => exact h.elim
  | [.str _], _, h => exact h.elim
  | [.tuple _], _, h => exact h.elim
  | [.dict _], _, h => exact h.elim
  | d1 :: _ :: _, _, h => cases d1 <;> exact h.elim⟩
end
end E3

namespace E3
open PySem PySem.Spec PyProof.Rows L2

theorem RpK.keys {K : PySem.W.Frag} {R : Hp} : ∀ {ks : List (List Key × V)} {kvs : List (D × D)}, RpK K R ks kvs → ∃ nss : List (List Int), ks.map (·.1) = nss.map (fun ns => ns.map Sum.inl) ∧ kvs.map (·.1) = nss.map encK
  | _, _, .nil => ⟨[], rfl, rfl⟩
  | _, _, .cons (k := k) h r => by
    obtain ⟨nss, e1, e2⟩ := RpK.keys r
    exact ⟨k :: nss, by rw [List.map_cons, List.map_cons, e1], by rw [List.map_cons, List.map_cons, e2]; rfl⟩
theorem keysL {H : Hp} : ∀ {kvs : List (List Key × V)} {bs : List Addr} {nss : List (List Int)}, IsKeys H kvs bs → kvs.map (·.1) = nss.map (fun ns => ns.map Sum.inl) →
    ∃ L : List (Addr × List Int), bs = L.map (·.1) ∧ nss = L.map (·.2) ∧ ∀ q ∈ L, H q.1 = some (.tup (q.2.map V.int))
  | _, _, [], Paired.nil, _ => ⟨[], rfl, rfl, fun _ h => nomatch h⟩
  | _, _, _ :: _, Paired.nil, e => by cases e
  | _, _, [], Paired.cons _ _, e => by cases e
  | _, _, ns :: nss, Paired.cons (a := p) (b := b) h t, e => by
    rw [List.map_cons, List.map_cons] at e
    injection e with e1 e2
    obtain ⟨L, l1, l2, l3⟩ := keysL t e2
    refine ⟨(b, ns) :: L, by rw [List.map_cons, ← l1], by rw [List.map_cons, ← l2], fun q hq => ?_⟩
    rcases List.mem_cons.mp hq with z | hq
    · subst z
      show H b = some (.tup (ns.map V.int))
      rw [h, e1, List.map_map]
      rfl
    · exact l3 q hq
def rSortDT : List V → Hp → VK → Prop := fun vs H Q => ∃ (a : Addr) (kvs : List (List Key × V)) (nss : List (List Int)), vs = [V.ref a] ∧ Rd H a (.dT kvs) ∧ kvs.map (·.1) = nss.map (fun ns => ns.map Sum.inl) ∧ (∀ ns ∈ nss, ns ≠ []) ∧
  ∀ (L : List (Addr × List Int)) (p : Addr), nss = L.map (·.2) → (∀ q ∈ L, H q.1 = some (.tup (q.2.map V.int))) → H p = none → Q (.ref p) (upd H p (.lst ((L.mergeSort (PySem.W.dataLe false encL)).map fun q => V.ref q.1)))
section
variable {X : Cx} {E : WX}
theorem cr_sortDT (hc : X.calm = true) (hu : X.A.units + 70 < cLine) : CallR X (.builtin "sorted") rSortDT := fun pins s τ H vs us Q I r h => by
  obtain ⟨a, kvs, nss, rfl, hd, hk, hne, q⟩ := h
  rw [Vals.ref1 r]
  have hh := I.ok.hd hc
  obtain ⟨z, hs, ks, pr, o, es, ep, ho, hx, hdt, he, hn⟩ := (show ObjOk X.prog X.w H s.heap a (.dT kvs) from hd.ok I.hok)
  have l1 : es.size = ks.length := size_of_entries he
  have l2 : kvs.length = ks.length := Paired.length pr
  refine Calls.call_function_entry kind_sorted plain_sorted entry_sorted (args_sorted1 _) ?_
  unfold Builtin.«sorted»
  refine wpAny_bind (m := checkCount "sorted" 1 1 _) (wpAny_pure ?_)
  refine wpAny_bind (PySem.W.kdu_collect (A := X.A.in1) (kdl_raw hs hx hdt) hh ho (by omega) fun h' tk acc kp it => ?_)
  have ea : acc.toList = ks.map fun x => Value.ref x.2.1 := by
    have hl : acc.toList.length = ks.length := by rw [Array.length_toList, it.1]; exact l1
    apply List.ext_getElem?
    intro j
    rw [List.getElem?_map]
    cases hj : acc.toList[j]? with
    | none =>
      rw [List.getElem?_eq_none (by have := List.getElem?_eq_none_iff.mp hj; omega)]; rfl
    | some v =>
      obtain ⟨en, hen, hv⟩ := it.2 j v (by rw [← Array.getElem?_toList]; exact hj)
      have qe := entry_at he j
      rw [hen] at qe
      cases hb : ks[j]? with
      | none =>
        rw [hb] at qe
        exact nomatch (show some en = none from qe)
      | some b =>
        rw [hb] at qe
        cases Option.some.inj qe
        exact congrArg some hv
  obtain ⟨L, e1, e2, e3⟩ := keysL (isKeys_of pr) hk
  have ev : acc.toList = L.map fun q => Value.ref q.1 := by
    rw [ea]
    have : (ks.map fun x => x.2.1).map Value.ref = (L.map (·.1)).map Value.ref := by rw [e1]
    rw [List.map_map, List.map_map] at this
    exact this
  have lenL : L.length = kvs.length := by
    have := congrArg List.length e1
    rw [List.length_map, List.length_map] at this
    omega
  rw [ev]
  generalize hvs : L.map (fun q : Addr × List Int => Value.ref q.1) = vs
  have hvl : vs.length = L.length := by rw [← hvs, List.length_map]
  have J1 : Inv X pins τ H { s with heap := h', toks := tk } := I.kept kp
  refine wpAny_bind (wpAny_newList ?_ (by omega))
  have hoL : (h'.push (seqObj "list" vs.toArray 0)).get? h'.objs.size = some (seqObj "list" vs.toArray 0) := Heap.get?_push_size _ rfl
  have tkL : ∀ q ∈ L, IsT X.prog X.w (h'.push (seqObj "list" vs.toArray 0)) q.2 q.1 := fun q hq =>
    isT_keep (J1.isT (SqT.of (e3 q hq))) fun b u e => Heap.get?_push_of_some _ e
  have al : PySem.W.AllAlike (L.map encL) := PySem.W.AllAlike.of fun b b' => alike_encK _ _
  refine wpAny_bind (wpAny_holding (PySem.W.list_sort_data (s := { s with heap := h'.push (seqObj "list" vs.toArray 0), toks := tk }) (vs := vs) (bs := L) (enc := encL) (R := fun u q => u = Value.ref q.1) hoL (hvs ▸ each_L L fun _ _ => rfl)
    (hvs ▸ each_L L fun q hq => ⟨[], reads_isT (hvs ▸ tkL q hq), by simp⟩) al (.inl fun d hd => ?_) (by omega) (fun b hb => ?_) fun out ho eo => ?_))
  · obtain ⟨q, hq, rfl⟩ := List.mem_map.mp hd
    have hq0 := hne q.2 (by rw [e2]; exact List.mem_map.mpr ⟨q, hq, rfl⟩)
    show ∃ x r, PyData.tuple (q.2.map .int) = .tuple (x :: r)
    cases e : q.2 with
    | nil => exact absurd e hq0
    | cons n r => exact ⟨_, _, rfl⟩
  · have := depth_encK b.2
    show X.A.in1.units + 1 + (encK b.2).depth < cLine
    have e : X.A.in1.units = X.A.units + 1 := rfl
    omega
  · obtain ⟨c, hc'⟩ := sortedHeap_at (vs := vs) (out := out.toArray) hoL
    have eo' := each_refs eo
    have hn : H h'.objs.size = none := J1.hok.fresh (Nat.le_refl _)
    have k2 : ∀ b u, h'.get? b = some u → (sortedHeap (h'.push (seqObj "list" vs.toArray 0)) h'.objs.size vs out.toArray).get? b = some u := fun b u e => by
      have hlt := Heap.lt_size e
      rw [sortedHeap_old (Nat.ne_of_lt hlt) (by rw [size_push']; exact Nat.lt_succ_of_lt hlt)]
      exact Heap.get?_push_of_some _ e
    refine wpAny_pure ⟨_, rfl, .ref h'.objs.size, _, ?_, rfl, q L h'.objs.size e2 e3 hn⟩
    refine J1.laid (t' := tk) k2 (Nat.le_refl _) ⟨?_, out, c, ?_, hc'⟩
    · rw [List.length_map, (List.mergeSort_perm _ _).length_eq]; omega
    · rw [eo']; exact vals_of_refs _
def keyNE : D × D → Bool
  | (.tuple (_ :: _), _) => true
  | _ => false
def sortAnyD : List D → Res D
  | [.dict kvs] => if kvs.all keyNE then .ok (.list (sortL (kvs.map (·.1)))) else .stuck
  | ds => sortedD ds
open Classical in
noncomputable def addT (R H : Hp) (bs : List Addr) : Hp := fun a => if a ∈ bs then H a else R a
theorem addT_in {R H : Hp} {bs : List Addr} {a : Addr} (h : a ∈ bs) : addT R H bs a = H a := by unfold addT; rw [if_pos h]
theorem addT_out {R H : Hp} {bs : List Addr} {a : Addr} (h : a ∉ bs) : addT R H bs a = R a := by unfold addT; rw [if_neg h]
theorem cn_sortAny (hc : X.calm = true) (hu : X.A.units + 70 < cLine) : CallN X (.builtin "sorted") sortAnyD := by
  obtain ⟨r0, c0, h0⟩ := cn_sorted (X := X) hu
  refine ⟨_, CallR.or (cr_sortDT hc hu) c0, fun vs ds R H Q Ex r s h => ?_⟩
  match ds, r, h with
  | [.dict kvs], r, h =>
    obtain ⟨v, rfl, q⟩ := one_inv r
    cases q with
    | ob g1 g2 => cases g1 <;> exact h.elim
    | @dT a ks _ g1 g2 =>
      simp only [sortAnyD] at h
      split at h
      · rename_i ok
        obtain ⟨nss, e1, e2⟩ := g2.keys
        have rdH : Rd H a (.dT ks) := rd_same s g1
        refine .inl ⟨a, ks, nss, rfl, rdH, e1, fun ns hns z => ?_, fun L p l1 l2 hp => ?_⟩
        · have hm : encK ns ∈ kvs.map (·.1) := by rw [e2]; exact List.mem_map.mpr ⟨ns, hns, rfl⟩
          obtain ⟨kv, hkv, ek⟩ := List.mem_map.mp hm
          have := List.all_eq_true.mp ok _ hkv
          obtain ⟨k0, v0⟩ := kv
          have ek' : k0 = encK ns := ek
          rw [ek', z] at this
          cases this
        · have keq : (L.mergeSort (PySem.W.dataLe false encL)).map encL = sortL (kvs.map (·.1)) := by
            have m1 : (L.mergeSort (PySem.W.dataLe false encL)).map encL = sortL (L.map encL) := PySem.W.sort_maps (r := PySem.W.dataLe false encL) (s := leD') encL (fun a _ b _ => rfl)
            rw [m1, e2, l1, List.map_map]; rfl
          have mem : ∀ b, b ∈ L.map (·.1) → ∃ xs, H b = some (.tup xs) := fun b hb => by
            obtain ⟨q, hq, rfl⟩ := List.mem_map.mp hb
            exact ⟨_, l2 q hq⟩
          have rr : Same R (addT R H (L.map (·.1))) := fun b o e => by
            by_cases hb : b ∈ L.map (·.1)
            · rw [addT_in hb]; exact s _ _ e
            · rw [addT_out hb]; exact e
          have hh : Same (addT R H (L.map (·.1))) H := fun b o e => by
            by_cases hb : b ∈ L.map (·.1)
            · rw [addT_in hb] at e; exact e
            · rw [addT_out hb] at e; exact s _ _ e
          refine h p (addT R H (L.map (·.1))) _ ⟨rr, hh.trans (same_new hp), same_new hp, fun b o e => ?_⟩ (hh.free hp) hp ⟨_, upd_same, ?_⟩
          · by_cases hb : b ∈ L.map (·.1)
            · rw [addT_in hb] at e
              obtain ⟨xs, ex⟩ := mem b hb
              rw [ex] at e
              exact .inr (.inr ⟨xs, (Option.some.inj e).symm⟩)
            · rw [addT_out hb] at e; exact .inl e
          · rw [← keq]
            refine refsL fun q hq => ?_
            have hq' := (List.mergeSort_perm _ _).mem_iff.mp hq
            rw [addT_in (List.mem_map.mpr ⟨q, hq', rfl⟩)]
            exact l2 q hq'
      · exact h.elim
  | [.list es], r, h => exact .inr (h0 _ _ R H Q Ex r s h)
  | [], r, h => exact .inr (h0 _ _ R H Q Ex r s h)
  | [.none], r, h => exact .inr (h0 _ _ R H Q Ex r s h)
  | [.bool _], r, h => exact .inr (h0 _ _ R H Q Ex r s h)
  | [.int _], r, h => exact .inr (h0 _ _ R H Q Ex r s h)
  | [.str _], r, h => exact .inr (h0 _ _ R H Q Ex r s h)
  | [.tuple _], r, h => exact .inr (h0 _ _ R H Q Ex r s h)
  | d1 :: d2 :: ds, r, h =>
    refine .inr (h0 _ _ R H Q Ex r s ?_)
    have e : sortAnyD (d1 :: d2 :: ds) = sortedD (d1 :: d2 :: ds) := by cases d1 <;> rfl
    rw [← e]; exact h

def rLenD : List V → Hp → VK → Prop := fun xs H Q => ∃ (p : Addr) (kvs : List (List Key × V)), xs = [.ref p] ∧ Rd H p (.dT kvs) ∧ Q (.int ((kvs.length : Nat) : Int)) H
theorem call_lenD : CallR X (.builtin "len") rLenD := by
  intro pins s σ H xs us Q I r h
  obtain ⟨p, kvs, rfl, hp, q⟩ := h
  rw [Vals.ref1 r]
  obtain ⟨z, hd, ys, rel, dd⟩ := dt_rd I.hok hp
  have hl : kvs.length = ys.length := Paired.length rel
  refine call_len_dictH hd dd (by rw [← hl]; rw [sizeLine_eq] at z; omega) ?_
  rw [← hl]
  exact ⟨.int ((kvs.length : Nat) : Int), H, I.tok _, ⟨_, rfl⟩, q⟩
def lenAny : List D → Res D
  | [.dict kvs] => if obK kvs then .stuck else .ok (.int kvs.length)
  | ds => lenD ds
theorem cd_lenA : CallD X (.builtin "len") lenAny := by
  obtain ⟨r0, c0, h0⟩ := cd_len (X := X)
  refine ⟨_, CallR.or call_lenD c0, fun vs ds R H Q Ex r s h => ?_⟩
  match ds, r, h with
  | [.dict kvs], r, h =>
    obtain ⟨v, rfl, q⟩ := one_inv r
    cases q with
    | dT g1 g2 =>
      simp only [lenAny, g2.noOb, Bool.false_eq_true, if_false] at h
      exact .inl ⟨_, _, rfl, rd_same s g1, by rw [g2.length]; exact Post.now s (Rp.int _) h⟩
    | ob g1 g2 => cases g1 <;> exact h.elim
  | [.list es], r, h => exact .inr (h0 _ _ R H Q Ex r s h)
  | [], r, h => exact .inr (h0 _ _ R H Q Ex r s h)
  | [.none], r, h => exact .inr (h0 _ _ R H Q Ex r s h)
  | [.bool _], r, h => exact .inr (h0 _ _ R H Q Ex r s h)
  | [.int _], r, h => exact .inr (h0 _ _ R H Q Ex r s h)
  | [.str _], r, h => exact .inr (h0 _ _ R H Q Ex r s h)
  | [.tuple _], r, h => exact .inr (h0 _ _ R H Q Ex r s h)
  | d1 :: d2 :: ds, r, h =>
    refine .inr (h0 _ _ R H Q Ex r s ?_)
    have e : lenAny (d1 :: d2 :: ds) = lenD (d1 :: d2 :: ds) := by cases d1 <;> rfl
    rw [← e]; exact h

def dropD (kvs : List (D × D)) (k : List Int) : List (D × D) := kvs.filter fun p => decide (keyOf p.1 ≠ some k)
theorem RpK.drop {K : PySem.W.Frag} {R : Hp} (k : List Int) : ∀ {ks : List (List Key × V)} {kvs : List (D × D)}, RpK K R ks kvs → RpK K R (dropK ks (k.map Sum.inl)) (dropD kvs k)
  | _, _, .nil => .nil
  | _, _, .cons (k := j) (v := vv) (d := dd) (kvs := ks) (ds := kvs) h r => by
    have ih := r.drop k
    by_cases e : j = k
    · subst e
      have e1 : dropK ((j.map Sum.inl, vv) :: ks) (j.map Sum.inl) = dropK ks (j.map Sum.inl) := List.filter_cons_of_neg (by simp)
      have e2 : dropD ((.tuple (j.map .int), dd) :: kvs) j = dropD kvs j := List.filter_cons_of_neg (by simp [keyOf_t])
      rw [e1, e2]; exact ih
    · have e1 : dropK ((j.map Sum.inl, vv) :: ks) (k.map Sum.inl) = (j.map Sum.inl, vv) :: dropK ks (k.map Sum.inl) := List.filter_cons_of_pos (by simpa using fun z => e (key_inj.mp z))
      have e2 : dropD ((.tuple (j.map .int), dd) :: kvs) k = (.tuple (j.map .int), dd) :: dropD kvs k := List.filter_cons_of_pos (by simpa [keyOf_t] using e)
      rw [e1, e2]; exact .cons h ih
def rPop1 : V → List V → Hp → VK → Prop := fun x xs H Q => ∃ (a : Addr) (kvs : List (List Key × V)) (k : List Key) (b : Addr) (v : V), x = .ref a ∧ xs = [.ref b] ∧ H a = some (.dT kvs) ∧ H b = some (.tup (k.map kV)) ∧ valV kvs k = some v ∧ Q v (upd H a (.dT (dropK kvs k)))
theorem mt_pop1 (hu : X.A.units + 1 < cLine) : MtR X "dict.pop" rPop1 := by
  intro pins s σ H x xs v us Q I rx rxs h
  obtain ⟨a, kvs, k, b, v1, rfl, rfl, ha, hb, hv, q⟩ := h
  cases rx
  rw [Vals.ref1 rxs]
  obtain ⟨z, hd, xs', rel, dd⟩ := dt_of I.hok ha
  have hz : xs'.length ≤ sizeLine := by rw [← Paired.length rel]; exact z
  have r := rel.val k
  rw [hv] at r
  cases hp : atKey xs' k with
  | none =>
    rw [hp] at r
    exact (show False from r).elim
  | some p =>
    rw [hp] at r
    refine call_pop_heap (knd := tupleKind (mixKind X.prog X.w)) (k := k) (more := []) (.inl rfl) (PySem.F.args_dict_pop_2 _ _) (tupleKind_room_in1 hu) (key_of I.hok hb) hd dd hp (fun h' dd' hs => ?_) hz
    obtain ⟨o, es, ep, hq, h2, h3, h4, _, h5⟩ := dd'
    have I2 : Inv X pins σ (upd H a (.dT (dropK kvs k))) { s with heap := h', toks := s.toks + (tupleKind (mixKind X.prog X.w)).draws k } :=
      d_write I (by rw [ha]; exact True.intro) hs ⟨o, hq⟩ ⟨Nat.le_trans (dropK_le kvs k) z, hd, _, (L2.DX.KT_drop k rel).keeps (fun c ys ec => (by rw [upd_ne (ne_of ec ha (fun z => nomatch z))]; exact ec)), o, es, ep, hq, h2, h3, h4, h5⟩
    exact ⟨v1, _, I2, r, q⟩
def popK (i : Nat) (σ : SS) (kvs : List (D × D)) (k : D) (g : D → SS → SR) : SR := match keyOf k with
  | some ns => match valK kvs ns with
    | some d => g d (σ.set i (some (.ow (.dict (dropD kvs ns)))))
    | none => .stuck
  | none => .stuck
def sPopD (i : Nat) (fk : DS → Res (List D)) : SF := fun σ => ownD i σ fun kvs => thenR (fk (view σ)) σ fun ds => if flatA ds then (match ds with
  | [k] => popK i σ kvs k fun _ σ' => .ok .nx σ'
  | _ => .stuck) else .stuck
variable {R0 H0 R H : Hp} {σ : SS} {τ : L2.St} {Dn : Ends} {x : Str} {np apos pos pos' : Pos} {e : Expr} {ga : DS → Res (List D)}
theorem tyD {H : Hp} {a : Addr} {kvs : List (List Key × V)} (h : H a = some (.dT kvs)) : tyV X.K "dict" (.ref a) H := by
  first
    | exact .inr (.inl ⟨rfl, .inr ⟨_, .inl h⟩⟩)
    | exact .inr ⟨rfl, .inr ⟨_, .inl h⟩⟩
    | (unfold tyV; simp [h, IsD, Rd])
theorem ds_popD (i : Nat) (hu : X.A.units + 65 < cLine) (hv : IsV X i x np) (ha : DA X E [e] ga)
    (hs : swapsWith (.Call (.Attribute (.Name x np) "pop" apos) [e] [] pos) none pos'.line X.env = pure false := by rfl)
    (hpe : ∀ {r : V → List V → Hp → VK → Prop} {to : TE} {t : TA}, MtR X "dict.pop" r → PE X (.Name x np) to → PA X [e] t → PE X (.Call (.Attribute (.Name x np) "pop" apos) [e] [] pos) (tBM X.K "dict" r to t)) :
    DS1 X E (.Expr (.Call (.Attribute (.Name x np) "pop" apos) [e] [] pos) pos') (sPopD i ga) := by
  obtain ⟨t, a1, a2⟩ := ha
  refine ⟨_, ps_expr (hpe (mt_pop1 (by omega)) hv a1) hs, fun R0 H0 σ τ R H Dn I q => ?_⟩
  obtain ⟨a, kvs, hc, h1, q⟩ := ownD_run I q
  obtain ⟨a', h1', h2, h3, ks0, h4, h5⟩ := I.ow i _ hc
  rw [h1] at h1'; cases h1'
  refine ⟨_, h1, tyD h4, a2 (view σ) τ (full σ τ R H) H _ I.viewed I.fullH (post_viewA I q fun ds vs R' H' J y z => ?_)⟩
  match ds, y, z with
  | [dk], y, z =>
    obtain ⟨k, rfl, rk⟩ := one_inv y
    obtain ⟨a', h1', h2, h3, ks, h4, h5⟩ := J.ow i _ hc
    rw [h1] at h1'; cases h1'
    simp only [popK] at z
    split at z
    · rename_i ns hk
      split at z
      · rename_i d hval
        obtain ⟨b, rfl, hb⟩ := key_run rk J.ext.sub hk
        obtain ⟨v, hv1, hv2⟩ := (h5.val ns).1 d hval
        exact ⟨a, ks, ns.map Sum.inl, b, v, rfl, rfl, h4, hb, hv1, z R' _ τ (J.mut (d := .dict (dropD kvs ns)) hc h1 ⟨_, upd_same, h5.drop ns⟩)⟩
      · exact z.elim
    · exact z.elim
  | [], _, z => exact z.elim
  | _ :: _ :: _, _, z => exact z.elim

def popAtM : MF := fun c ds => match ds with
  | [.int i] => if -(2 ^ 63) ≤ i ∧ i < 2 ^ 63 then (match seqIndex? i c.length with
    | some k => match c[k]? with
      | some d => some (d, c.eraseIdx k)
      | none => none
    | none => none) else none
  | _ => none
theorem md_popAt : MtD X "list.pop" popAtM := by
  refine ⟨_, mt_popAt, fun a xs c vs ds d c' R H Q hH hR hx hv s hm q => ?_⟩
  match ds, hv, hm with
  | [.int i], hv, hm =>
    obtain ⟨v, rfl, r⟩ := one_inv hv
    cases r
    simp only [popAtM] at hm
    by_cases hi : -(2 ^ 63) ≤ i ∧ i < 2 ^ 63
    · rw [if_pos hi] at hm
      split at hm
      · rename_i k hk
        split at hm
        · rename_i d' hd
          cases hm
          obtain ⟨v, z1, z2⟩ := hx.get hd
          exact ⟨a, xs, i, k, v, rfl, rfl, hH, hi.1, hi.2, by rw [hx.length]; exact hk, z1, q _ _ (hx.eraseIdx k) z2⟩
        · cases hm
      · cases hm
    · rw [if_neg hi] at hm; cases hm
  | [.none], _, hm => cases hm
  | [.bool _], _, hm => cases hm
  | [.str _], _, hm => cases hm
  | [.list _], _, hm => cases hm
  | [.tuple _], _, hm => cases hm
  | [.dict _], _, hm => cases hm
  | [], _, hm => cases hm
  | d1 :: _ :: _, _, hm => cases d1 <;> cases hm
def setIx (i : Nat) (σ : SS) (c : List D) (k v : D) : SR := match k with
  | .int j => match ixN c.length j with
    | some n => .ok .nx (σ.set i (some (.ow (.list (c.set n v)))))
    | none => .stuck
  | _ => .stuck
def sStore (i : Nat) (fk fv : DS → Res D) : SF := fun σ => ownL i σ fun c => thenR (fv (mask σ)) σ fun v => thenR (fk (mask σ)) σ fun k => setIx i σ c k v
def sStoreV (i : Nat) (fk fv : DS → Res D) : SF := fun σ => ownL i σ fun c => thenR (fv (view σ)) σ fun v => if flat v then thenR (fk (view σ)) σ fun k => if flat k then setIx i σ c k v else .stuck else .stuck
variable {i value : Expr} {fk fv : DS → Res D}
theorem setIx_run {j : Nat} {dk dv : D} {k v : V} {a : Addr} {c : List D} (hc : σ[j]? = some (some (.ow (.list c)))) (h1 : τ[j]? = some (some (.ref a))) (I : RO X.K R0 H0 R H σ τ) (rk : Rp X.K R k dk) (rv : Rp X.K R v dv) (q : SPost X E R0 H0 Dn (setIx j σ c dk dv)) :
    rSetL (.ref a) k v H fun H4 => Dn.nx τ H4 := by
  obtain ⟨a', h1', h2, h3, xs, h4, h5⟩ := I.ow j _ hc
  rw [h1] at h1'; cases h1'
  unfold setIx at q
  split at q
  · rename_i ji
    split at q
    · rename_i n hn
      cases rk
      exact ⟨a, xs, ji, n, rfl, rfl, h4, by rw [h5.length]; exact hn, q R _ τ (I.mut (d := .list (c.set n dv)) hc h1 ⟨_, upd_same, h5.set rv n⟩)⟩
    · exact q.elim
  · exact q.elim
theorem ds_storeV (j : Nat) (hv : IsV X j x np) (hk : DE X E i fk) (hval : DE X E value fv) (hs : swapsWithSole [.Subscript (.Name x np) i pos'] value pos.line X.env = pure false := by rfl)
    (hw : swappedStores [.Subscript (.Name x np) i pos'] value X.env = pure none := by rfl) (h1 : (assignEach [.Subscript (.Name x np) i pos'] X.env).map (·.2) = [assign (.Subscript (.Name x np) i pos') X.env] := by rfl)
    (hg : ∀ v, assign (.Subscript (.Name x np) i pos') X.env v = (do
      let ov ← holding [v] (eval (.Name x np) X.env)
      let iv ← holding [v, ov] (eval i X.env)
      standAt pos'
      holding [v, ov, iv] (setItem ov iv v)
      release [v, ov, iv] []) := by intro _; rfl) :
    DS1 X E (.Assign [.Subscript (.Name x np) i pos'] value pos) (sStoreV j fk fv) := by
  obtain ⟨ta, a1, a2⟩ := hk
  obtain ⟨tb, b1, b2⟩ := hval
  refine ⟨_, ps_asg b1 (pg_sub hv a1 set_list hg) hs hw h1, fun R0 H0 σ τ R H Dn I q => ?_⟩
  obtain ⟨a, xs, c, hc, e1, h3, h4, h5, q⟩ := ownL_run I q
  refine b2 (view σ) τ (full σ τ R H) H _ I.viewed I.fullH (post_view I q fun dv v R' H' J y z => ⟨_, e1, ?_⟩)
  refine a2 (view σ) τ (full σ τ R' H') H' _ J.viewed J.fullH ?_
  have key := z
  cases w : fk (view σ) with
  | ok dk =>
    rw [w] at key
    intro k R2 H2 e2 q2
    have key2 : SPost X E R0 H0 Dn (if flat dk then setIx j σ c dk dv else .stuck) := key
    by_cases hf : flat dk = true
    · rw [if_pos hf] at key2
      obtain ⟨J2, tu⟩ := J.stepF e2
      have same : Same R' (hide σ τ R2) := fun b o e => by
        have n : ¬ owned σ τ b := fun z => by rw [(J.ownd z).1] at e; cases e
        rw [hide_n n]
        exact e2.rr _ _ (by rw [full_n n]; exact e)
      exact setIx_run hc e1 J2 (Rp.flat tu q2 hf) (y.mono same) key2
    · rw [if_neg hf] at key2; exact key2.elim
  | exc ex => rw [w] at key; exact fun cc dx H2 s y2 => key cc dx R' H2 τ (J.same s) (y2.back J.ext.hh)
  | stuck => rw [w] at key; exact key
end
end E3

namespace E3
open PySem PySem.Spec PyProof.Rows L2
open PySem.W (minD maxD min_list_data max_list_data AlikeAll readsAll_at reads_keeps)
section
variable {X : Cx} {E : WX} {sts : List Stmt}
theorem dss_stuck : DSs X E sts sStuck := ⟨_, pss_never, fun _ _ _ _ _ _ _ _ q => q.elim⟩
def noNone (ds : List D) : Bool := ds.all fun d => match d with
  | .none => false
  | _ => true
def minOk (ds : List D) : Bool := sortOk ds && noNone ds
theorem minOk_alike {ds : List D} (h : minOk ds = true) : AlikeAll ds := by
  obtain ⟨h1, h2⟩ := Bool.and_eq_true_iff.mp h
  refine ⟨fun x hx y hy => sortOk_alike h1 x hx y hy, fun x hx z => ?_⟩
  have := List.all_eq_true.mp h2 x hx
  rw [z] at this
  cases this
theorem canAll_mem : ∀ {ds : List D} {d : D}, PyData.canLayAll0 ds = true → d ∈ ds → d.canLay0 = true
  | _ :: _, _, h, .head _ => (Bool.and_eq_true_iff.mp (by simpa [PyData.canLayAll0] using h)).1
  | _ :: _, _, h, .tail _ m => canAll_mem (by simp [PyData.canLayAll0] at h; exact h.2) m
theorem depth_all : ∀ {ds : List D} {n : Nat}, (∀ d ∈ ds, d.depth ≤ n) → PyData.depthAll ds ≤ n
  | [], n, _ => by simp [PyData.depthAll]
  | d :: ds, n, h => by
    have h1 := h d List.mem_cons_self
    have h2 := depth_all fun e he => h e (List.mem_cons_of_mem _ he)
    simp only [PyData.depthAll]
    omega
def rBest (K : PySem.W.Frag) (b : D → List D → D) : List V → Hp → VK → Prop := fun vs H Q => ∃ (a : Addr) (xs : List V) (d : D) (ds : List D), vs = [.ref a] ∧ SqL K H a xs ∧ DpAll K H xs (d :: ds) ∧ minOk (d :: ds) = true ∧
  ∀ (i : Nat) (v : V), xs[i]? = some v → (d :: ds)[i]? = some (b d ds) → Q v H
theorem vals_getU : ∀ {xs : List V} {us : List Value} {i : Nat} {u : Value}, Vals xs us → us[i]? = some u → ∃ v, xs[i]? = some v ∧ RelV v u
  | _, _, _, _, .nil, e => by simp at e
  | _, _, 0, _, .cons h _, e => by simp at e; subst e; exact ⟨_, rfl, h⟩
  | _, _, i + 1, u, .cons _ r, e => by
    obtain ⟨v, h1, h2⟩ := vals_getU (i := i) (u := u) r (by simpa using e)
    exact ⟨v, by simpa using h1, h2⟩
theorem cr_minData (hc : X.calm = true) (hu : X.A.units + 70 < cLine) : CallR X (.builtin "min") (rBest X.K minD) := fun pins s σ H vs us Q I r h => by
  obtain ⟨a, xs, d, ds, rfl, hs, hd, ok, q⟩ := h
  rw [Vals.ref1 r]
  obtain ⟨its, rv, hl, hz⟩ := I.list hs
  obtain ⟨as, rd⟩ := Dp.readsAll I (d :: ds) xs its hd rv
  have ok1 := (Bool.and_eq_true_iff.mp ok).1
  have hdep := depth_all (sortOk_depth ok1)
  refine min_list_data (I.ok.hd hc) hl.isList (by simpa using rd) (minOk_alike ok) (by omega) fun i v h' tk bs hv hr hk => ?_
  have hv' : its[i]? = some v := by simpa using hv
  obtain ⟨w, hw, rw'⟩ := vals_getU rv hv'
  obtain ⟨bs', r', hi, hm, _⟩ := readsAll_at rd i v hv'
  have can : ((d :: ds).getD i .none).canLay0 = true := canAll_mem (sortOk_can ok1) hm
  have e := PySem.SeqAt.Reads.unique _ _ _ _ _ can (reads_keeps hk r') hr
  refine ⟨w, H, I.kept hk, rw', q i w hw ?_⟩
  rw [← e, List.getD_eq_getElem?_getD, List.getElem?_eq_getElem hi]; rfl
theorem cr_maxData (hc : X.calm = true) (hu : X.A.units + 70 < cLine) : CallR X (.builtin "max") (rBest X.K maxD) := fun pins s σ H vs us Q I r h => by
  obtain ⟨a, xs, d, ds, rfl, hs, hd, ok, q⟩ := h
  rw [Vals.ref1 r]
  obtain ⟨its, rv, hl, hz⟩ := I.list hs
  obtain ⟨as, rd⟩ := Dp.readsAll I (d :: ds) xs its hd rv
  have ok1 := (Bool.and_eq_true_iff.mp ok).1
  have hdep := depth_all (sortOk_depth ok1)
  refine max_list_data (I.ok.hd hc) hl.isList (by simpa using rd) (minOk_alike ok) (by omega) fun i v h' tk bs hv hr hk => ?_
  have hv' : its[i]? = some v := by simpa using hv
  obtain ⟨w, hw, rw'⟩ := vals_getU rv hv'
  obtain ⟨bs', r', hi, hm, _⟩ := readsAll_at rd i v hv'
  have can : ((d :: ds).getD i .none).canLay0 = true := canAll_mem (sortOk_can ok1) hm
  have e := PySem.SeqAt.Reads.unique _ _ _ _ _ can (reads_keeps hk r') hr
  refine ⟨w, H, I.kept hk, rw', q i w hw ?_⟩
  rw [← e, List.getD_eq_getElem?_getD, List.getElem?_eq_getElem hi]; rfl
def bestD (b : D → List D → D) : List D → Res D
  | [.list (d :: ds)] => if minOk (d :: ds) then .ok (b d ds) else .stuck
  | _ => .stuck
theorem bestD_run {b : D → List D → D} {K : PySem.W.Frag} {mg : Str → Option Value} {Ex : XK} {R H : Hp} {Q : VK} {vs : List V} {ds : List D} (r : RpA K R vs ds) (s : Same R H) (h : Post K mg Ex (rV K) R H Q (bestD b ds)) : rBest K b vs H Q := by
  match ds, r, h with
  | [.list (d :: ds)], r, h =>
    obtain ⟨v, rfl, q⟩ := one_inv r
    simp only [bestD] at h
    split at h
    · rename_i ok
      have ok1 := (Bool.and_eq_true_iff.mp ok).1
      cases q with
      | lst g1 g2 =>
        refine ⟨_, _, d, ds, rfl, (ls_same s g1).sq, (g2.mono s).dp (sortOk_can ok1), ok, fun i v hv he => ?_⟩
        obtain ⟨v', z1, z2⟩ := g2.get he
        rw [hv] at z1; cases z1
        exact Post.now s z2 h
    · exact h.elim
  | [.list []], _, h => exact h.elim
  | [], _, h => exact h.elim
  | [.none], _, h => exact h.elim
  | [.bool _], _, h => exact h.elim
  | [.int _], _, h => exact h.elim
  | [.str _], _, h => exact h.elim
  | [.tuple _], _, h => exact h.elim
  | [.dict _], _, h => exact h.elim
  | .none :: _ :: _, _, h => exact h.elim
  | .bool _ :: _ :: _, _, h => exact h.elim
  | .int _ :: _ :: _, _, h => exact h.elim
  | .str _ :: _ :: _, _, h => exact h.elim
  | .tuple _ :: _ :: _, _, h => exact h.elim
  | .dict _ :: _ :: _, _, h => exact h.elim
  | .list [] :: _ :: _, _, h => exact h.elim
  | .list (_ :: _) :: _ :: _, _, h => exact h.elim
def minTD : List D → Res D := bestD minD
def maxTD : List D → Res D := bestD maxD
theorem cd_minT (hc : X.calm = true) (hu : X.A.units + 70 < cLine) : CallD X (.builtin "min") minTD := ⟨_, cr_minData hc hu, fun vs ds R H Q Ex r s h => bestD_run r s h⟩
theorem cd_maxT (hc : X.calm = true) (hu : X.A.units + 70 < cLine) : CallD X (.builtin "max") maxTD := ⟨_, cr_maxData hc hu, fun vs ds R H Q Ex r s h => bestD_run r s h⟩
end
end E3

namespace E3
open PySem PySem.Spec PyProof.Rows L2
section
variable {X : Cx} {E : WX}
def rEqE : R2 := fun x y H Q => ∃ (a b : Addr) (kvs : List (List Key × V)), x = .ref a ∧ y = .ref b ∧ Rd H a (.dT kvs) ∧ Rd H b (.dT []) ∧ Q (.bl kvs.isEmpty) H
theorem same_empty {prog : Program} {w : World} {A : Around} {E : Value → Shared → Prop} {s : Shared} {nm : String} {a b : Addr} {oa ob : Obj} {es : Array DictEntry} {ep ep' : Nat} {Q : Bool → Shared → Prop} (ha : (a == sysModules) = false) (hb : (b == sysModules) = false)
    (hoa : s.heap.get? a = some oa) (hda : oa.data = .dict es ep) (hob : s.heap.get? b = some ob) (hdb : ob.data = .dict #[] ep') (h : Q es.isEmpty s) : wpAny (model prog w) A (Builtin.Dict.samePairs nm a b) Q E s := by
  unfold Builtin.Dict.samePairs Builtin.Dict.showsAll
  rw [if_neg (by rw [ha]; decide), if_neg (by rw [hb]; decide)]
  refine wpAny_bind (wpAny_pure (wpAny_bind (wpAny_pure (wpAny_bind (wpAny_dictEntries hoa hda ?_)))))
  dsimp only
  refine wpAny_bind (wpAny_dictEntries hob hdb ?_)
  by_cases hz : es.size = 0
  · have e : es = #[] := Array.eq_empty_of_size_eq_zero hz
    subst e
    rw [if_neg (by simp)]
    refine wpAny_bind (wpAny_dictEpoch hoa hda ?_)
    refine wpAny_bind ?_
    rw [Std.Legacy.Range.forIn_eq_forIn_range']
    exact wpAny_pure (wpAny_pure h)
  · rw [if_pos (by simpa using hz)]
    have e : es.isEmpty = false := by
      cases q : es.isEmpty with
      | false => rfl
      | true => exact absurd (by simpa using q) hz
    rw [e] at h
    exact wpAny_bind (wpAny_rule (wpAny_pure h))
theorem op_eqE (hu : X.A.units + 65 < cLine) : OpR X (compareOp .Eq) rEqE := fun pins s σ H x y v u Q I rx ry h => by
  obtain ⟨a, b, kvs, rfl, rfl, ha, hb, q⟩ := h
  cases rx
  cases ry
  obtain ⟨z1, hs1, ks1, pr1, o1, es1, ep1, ho1, hx1, hd1, he1, hn1⟩ := (show ObjOk X.prog X.w H s.heap a (.dT kvs) from ha.ok I.hok)
  obtain ⟨z2, hs2, ks2, pr2, o2, es2, ep2, ho2, hx2, hd2, he2, hn2⟩ := (show ObjOk X.prog X.w H s.heap b (.dT []) from hb.ok I.hok)
  have l1 : es1.size = ks1.length := size_of_entries he1
  have l2 : kvs.length = ks1.length := Paired.length pr1
  have l3 : es2.size = ks2.length := size_of_entries he2
  have l4 : 0 = ks2.length := Paired.length pr2
  have e2 : es2 = #[] := Array.eq_empty_of_size_eq_zero (by omega)
  subst e2
  have t1 : s.TypeIs (.ref a) "dict" := ⟨o1, ho1, hx1.1⟩
  have t2 : s.TypeIs (.ref b) "dict" := ⟨o2, ho2, hx2.1⟩
  show wpAny _ _ (richCompare .Eq (.ref a) (.ref b)) _ _ _
  refine wpAny_richCompare_same_room (op := .Eq) t1 t2 PySem.F.slot_dict_eq (wpAny_call_entry PySem.F.slot_dict_eq t1 PySem.F.entry_dict_eq ?_ (PySem.F.args_dict_eq_2 _ _)) (by omega)
  show wpAny _ _ (Builtin.Dict.dictSlotArgs "__eq__" ⟨[.ref a, .ref b], []⟩ >>= _) _ _ s
  refine wpAny_bind ?_
  unfold Builtin.Dict.dictSlotArgs
  refine wpAny_bind (wpAny_notOrdered_dict t1 (wpAny_pure ?_))
  refine wpAny_bind (wpAny_isInstance (T := "dict") t2 PySem.F.sub_dict_dict ?_)
  simp only [Bool.not_true, Bool.false_eq_true, if_false]
  refine wpAny_bind (wpAny_pure (wpAny_bind (wpAny_pure (wpAny_bind (same_empty hs1 hs2 ho1 hd1 ho2 hd2 ?_)))))
  have ei : es1.isEmpty = kvs.isEmpty := by
    cases kvs with
    | nil =>
      have : es1 = #[] := Array.eq_empty_of_size_eq_zero (by rw [l1, ← l2]; rfl)
      rw [this]; rfl
    | cons p kvs =>
      have : es1.size ≠ 0 := by rw [l1, ← l2, List.length_cons]; omega
      cases q : es1.isEmpty with
      | false => rfl
      | true => exact absurd (by simpa using q) this
  rw [ei]
  refine wpAny_pure ⟨_, rfl, (fun x => nomatch x), ?_⟩
  have eb : (kvs.isEmpty == true) = kvs.isEmpty := by cases kvs.isEmpty <;> rfl
  rw [eb]
  exact ⟨.bl kvs.isEmpty, H, I, rfl, q⟩
def eqED : D → D → Res D
  | .dict kvs, .dict [] => if obK kvs then .stuck else .ok (.bool kvs.isEmpty)
  | x, y => eqD x y
theorem od_eqE (hu : X.A.units + 65 < cLine) : OpD X (compareOp .Eq) eqED := by
  obtain ⟨r0, c0, h0⟩ := od_eq (X := X) (show X.A.units + 64 < cLine by omega)
  refine ⟨_, (op_eqE hu).or c0, fun v w x y R H Q Ex rx ry s h => ?_⟩
  by_cases hd : ∃ kvs, x = .dict kvs ∧ y = .dict []
  · obtain ⟨kvs, rfl, rfl⟩ := hd
    cases rx with
    | ob g1 g2 => cases g1 <;> exact h.elim
    | @dT a ks _ g1 g2 =>
      simp only [eqED, g2.noOb, Bool.false_eq_true, if_false] at h
      cases ry with
      | @dT b ks2 _ g3 g4 =>
        cases g4
        refine .inl ⟨a, b, ks, rfl, rfl, rd_same s g1, rd_same s g3, ?_⟩
        have e : ks.isEmpty = kvs.isEmpty := by
          cases g2 <;> rfl
        rw [e]
        exact Post.now s (Rp.bl _) h
  · refine .inr (h0 v w x y R H Q Ex rx ry s ?_)
    have e : eqED x y = eqD x y := by
      unfold eqED
      split
      · rename_i kvs
        exact absurd ⟨kvs, rfl, rfl⟩ hd
      · rfl
    rw [← e]; exact h
end
end E3


namespace BS
open PySem PySem.Spec PyProof.Rows L2 E3
structure Set0 (P : Program) (w : World) (h : Heap) (a : Addr) (L : List (Addr × List Int)) : Prop where
  ex : ∃ (es : Array (Int × Value)) (ep : Nat) (t : SetTable), (∃ o, h.get? a = some o ∧ o.ExactSet ∧ o.data = .set es ep t) ∧ ((∀ p ∈ L, IsT P w h p.2 p.1) → SetB P w h a L es ep t) ∧
    ∀ h' : Heap, (∀ o, h.get? a = some o → h'.get? a = some o) → (∀ p ∈ L, IsT P w h' p.2 p.1) → SetB P w h' a L es ep t
def SetO (P : Program) (w : World) (a : Addr) (L : List (Addr × List Int)) : HO := .ext fun h => Set0 P w h a L
theorem set0_of {P : Program} {w : World} {h : Heap} {a : Addr} {L : List (Addr × List Int)} {es : Array (Int × Value)} {ep : Nat} {t : SetTable} (R : SetB P w h a L es ep t) : Set0 P w h a L :=
  ⟨es, ep, t, R.ob, fun ht => R.keep (fun _ e => e) ht, fun h' k ht => R.keep k ht⟩
theorem Set0.keep {P : Program} {w : World} {h h' : Heap} {a : Addr} {L : List (Addr × List Int)} (R : Set0 P w h a L) (k : ∀ o, h.get? a = some o → h'.get? a = some o) : Set0 P w h' a L := by
  obtain ⟨es, ep, t, ⟨o, ho, r⟩, f, g⟩ := R.ex
  exact ⟨es, ep, t, ⟨o, k o ho, r⟩, fun ht => g h' k ht, fun h2 k2 ht => g h2 (fun o e => by
    have := k2 _ (k _ ho)
    rw [ho] at e
    cases e
    exact this) ht⟩
theorem setO_new {P : Program} {w : World} {H : Hp} {h : Heap} {a : Addr} {L : List (Addr × List Int)} (R : Set0 P w h a L) : ObjOk P w H h a (SetO P w a L) := by
  have ⟨es, ep, t, ⟨o, ho, r⟩, q⟩ := R.ex
  exact ⟨R, ⟨o, ho⟩, fun h1 h2 p k => Set0.keep p k⟩
section
variable {X : Cx}
def rSetB (K : PySem.W.Frag) (P : Program) (w : World) : List V → Hp → VK → Prop := fun xs H Q => ∃ (l : Addr) (ks : List (Addr × List Int)), xs = [V.ref l] ∧ (SqL K H l (ks.map fun p => V.ref p.1) ∨ SqT K H l (ks.map fun p => V.ref p.1)) ∧ (∀ p ∈ ks, SqT K H p.1 (p.2.map V.int)) ∧ (∀ L : List (Addr × List Int), (L.map (·.2)).Nodup → (∀ p ∈ L, p ∈ ks) → L.length + 1 < 4096) ∧
  ∀ a L, H a = none → (∀ p ∈ L, p ∈ ks) → (∀ p ∈ ks, p.2 ∈ L.map (·.2)) → Q (.ref a) (upd H a (SetO P w a L))
theorem cr_setB (hc : X.calm = true) (hu : X.A.units + 64 < cLine) : CallR X (.type "set") (rSetB X.K X.prog X.w) := fun pins s τ H xs us Q I r h => by
  obtain ⟨l, ks, rfl, hl, hk, hf, q⟩ := h
  rw [Vals.ref1 r]
  have hn := I.hok.fresh (Nat.le_refl s.heap.objs.size)
  have fin : ∀ (h' : Heap) (tk : Nat) L es ep t, SetB X.prog X.w h' s.heap.objs.size L es ep t → Got ks ks.length L → (∀ b o, s.heap.get? b = some o → h'.get? b = some o) →
      ∃ (x : V) (H' : Hp), Inv X pins τ H' { s with heap := h', toks := tk } ∧ RelV x (Value.ref s.heap.objs.size) ∧ Q x H' := fun h' tk L es ep t R g k =>
    ⟨.ref s.heap.objs.size, _, I.laid (t' := tk) k (Nat.le_refl _) (setO_new (set0_of R)), rfl, q _ L hn (fun p hp => List.mem_of_mem_take (g.sub p hp)) fun p hp => g.all p (by rw [List.take_length]; exact hp)⟩
  rcases hl with hl | hl
  · obtain ⟨its, rv, pl, _⟩ := I.list hl
    exact set_of_list_b (P := X.prog) (w := X.w) ks (I.ok.hd hc) pl.isList (by simpa using refs_of_vals rv) (fun p hp => Inv.isT I (hk p hp)) hf (by omega) fin
  · obtain ⟨its, rv, pl, _⟩ := I.tuple hl
    exact set_of_tup_b (P := X.prog) (w := X.w) ks (I.ok.hd hc) pl (by simpa using refs_of_vals rv) (fun p hp => Inv.isT I (hk p hp)) hf (by omega) fin
def rSortB (K : PySem.W.Frag) (P : Program) (w : World) : List V → Hp → VK → Prop := fun vs H Q => ∃ (a : Addr) (L : List (Addr × List Int)), vs = [V.ref a] ∧ H a = some (SetO P w a L) ∧ (∀ p ∈ L, SqT K H p.1 (p.2.map V.int)) ∧ (∀ p ∈ L, p.2 ≠ []) ∧
  ∀ (L1 : List (Addr × List Int)) (p : Addr), L1.Perm L → (L1.map (·.2)).Nodup → H p = none → Q (.ref p) (upd H p (.lst ((L1.mergeSort (PySem.W.dataLe false encL)).map fun q => V.ref q.1)))
theorem cr_sortB (hc : X.calm = true) (hu : X.A.units + 70 < cLine) : CallR X (.builtin "sorted") (rSortB X.K X.prog X.w) := fun pins s τ H vs us Q I r h => by
  obtain ⟨a, L, rfl, ha, hk, hne, q⟩ := h
  have R0 : Set0 X.prog X.w s.heap a L := (I.hok a _ ha).1
  obtain ⟨es, ep, t, _, full, _⟩ := R0.ex
  have R := full fun p hp => Inv.isT I (hk p hp)
  rw [Vals.ref1 r]
  have hh := I.ok.hd hc
  obtain ⟨o, ho, hex, hd⟩ := R.ob
  have hsz := R.size
  have hfew := R.few
  refine Calls.call_function_entry kind_sorted plain_sorted entry_sorted (args_sorted1 _) ?_
  unfold Builtin.«sorted»
  refine wpAny_bind (m := checkCount "sorted" 1 1 _) (wpAny_pure ?_)
  refine wpAny_bind (collect_set (A := X.A.in1) hh ⟨o, ho, hex.1, hd⟩ R.fits (by unfold scanBound; omega) R.tab.up R.led fun s1 vs k1 hz g1 o1 pm => ?_)
  have hes : es.toList.map (·.2) = L.map fun q => Value.ref q.1 := by
    rw [R.rows]; unfold rowsOf; rw [List.map_map]; rfl
  obtain ⟨L1, p1, e1⟩ := perm_map_ex (fun q : Addr × List Int => Value.ref q.1) pm hes
  subst e1
  generalize hvs : L1.map (fun q : Addr × List Int => Value.ref q.1) = vs
  have len1 : L1.length = L.length := p1.length_eq
  have J1 : Inv X pins τ H s1 := Inv.call' I o1 (ch := []) (Un.kept k1) (I.hok.kept k1) (by rw [g1]; exact I.bare) (fun _ z => nomatch z)
  have hvl : vs.length = L1.length := by rw [← hvs, List.length_map]
  refine wpAny_bind (wpAny_newList ?_ (by rw [sizeLine_eq]; omega))
  have hoL : (s1.heap.push (seqObj "list" vs.toArray 0)).get? s1.heap.objs.size = some (seqObj "list" vs.toArray 0) := Heap.get?_push_size _ rfl
  have tk : ∀ q ∈ L1, IsT X.prog X.w (s1.heap.push (seqObj "list" vs.toArray 0)) q.2 q.1 := fun q hq =>
    isT_keep (R.tup q (p1.mem_iff.mp hq)) fun b u e => Heap.get?_push_of_some _ (k1 b u e)
  have al : PySem.W.AllAlike (L1.map encL) := PySem.W.AllAlike.of fun b b' => alike_encK _ _
  refine wpAny_bind (wpAny_holding (PySem.W.list_sort_data (s := { s1 with heap := s1.heap.push (seqObj "list" vs.toArray 0) }) (vs := vs) (bs := L1) (enc := encL) (R := fun u q => u = Value.ref q.1) hoL (hvs ▸ each_L L1 fun _ _ => rfl)
    (hvs ▸ each_L L1 fun q hq => ⟨[], reads_isT (hvs ▸ tk q hq), by simp⟩) al (.inl fun d hd => ?_) (by rw [sizeLine_eq]; omega) (fun b hb => ?_) fun out ho eo => ?_))
  · obtain ⟨q, hq, rfl⟩ := List.mem_map.mp hd
    have hq0 := hne q (p1.mem_iff.mp hq)
    show ∃ x r, PyData.tuple (q.2.map .int) = .tuple (x :: r)
    cases e : q.2 with
    | nil => exact absurd e hq0
    | cons n r => exact ⟨_, _, rfl⟩
  · have := depth_encK b.2
    show X.A.in1.units + 1 + (encK b.2).depth < cLine
    have e : X.A.in1.units = X.A.units + 1 := rfl
    omega
  · obtain ⟨c, hc'⟩ := sortedHeap_at (vs := vs) (out := out.toArray) hoL
    have eo' := each_refs eo
    have hn : H s1.heap.objs.size = none := J1.hok.fresh (Nat.le_refl _)
    have k2 : ∀ b u, s1.heap.get? b = some u → (sortedHeap (s1.heap.push (seqObj "list" vs.toArray 0)) s1.heap.objs.size vs out.toArray).get? b = some u := fun b u e => by
      have hlt := Heap.lt_size e
      rw [sortedHeap_old (Nat.ne_of_lt hlt) (by rw [size_push']; exact Nat.lt_succ_of_lt hlt)]
      exact Heap.get?_push_of_some _ e
    have nd : (L1.map (·.2)).Nodup := (p1.map (·.2)).nodup_iff.mpr R.nd
    refine wpAny_pure ⟨_, rfl, .ref s1.heap.objs.size, _, ?_, rfl, q L1 s1.heap.objs.size p1 nd hn⟩
    refine J1.laid (t' := s1.toks) k2 (Nat.le_refl _) ⟨?_, out, c, ?_, hc'⟩
    · rw [List.length_map, (List.mergeSort_perm _ _).length_eq, len1, sizeLine_eq]; omega
    · rw [eo']; exact vals_of_refs _
end
theorem nodup_le {α : Type} [DecidableEq α] : ∀ {l m : List α}, l.Nodup → (∀ x ∈ l, x ∈ m) → l.length ≤ m.length
  | [], _, _, _ => Nat.zero_le _
  | a :: l, m, nd, sb => by
    have ha : a ∈ m := sb a List.mem_cons_self
    have nd' := List.nodup_cons.mp nd
    have h := nodup_le (l := l) (m := m.erase a) nd'.2 fun x hx => (List.mem_erase_of_ne (fun z => nd'.1 (by rw [← z]; exact hx))).mpr (sb x (List.mem_cons_of_mem _ hx))
    have h2 := List.length_erase_of_mem ha
    have h3 := List.length_pos_of_mem ha
    rw [List.length_cons]
    omega
def setOfB (ds : List D) : Res D := match keysOf ds with
  | some ks => if (dd ks).length ≤ 4094 ∧ (ks.all fun k => !k.isEmpty) = true then .ok (.list ((riseK (dd ks)).map encK)) else .stuck
  | none => .stuck
def sortSetB : D → Res D
  | .list ds => setOfB ds
  | .tuple ds => setOfB ds
  | _ => .stuck
section
variable {X : Cx} {E : WX} {e : Expr} {f : DS → Res D} {pos p p2 pos2 : Pos}
theorem dn_sortedSetB (hc : X.calm = true) (hu : X.A.units + 70 < cLine) (hg : Gl X "sorted") (hm : X.mg "sorted" = none) (hb : bootBuiltins "sorted" = some (.builtin "sorted")) (hg2 : Gl X "set") (hm2 : X.mg "set" = none) (hb2 : bootBuiltins "set" = some (.type "set")) (he : DE X E e f)
    (h1 : starEach [e] X.env = (false, eval e X.env) :: starEach [] X.env := by rfl) (hp1 : (backTo pos2 (starEach [] X.env)).any (·.1) = false := by rfl)
    (h2 : starEach [.Call (.Name "set" p2) [e] [] pos2] X.env = (false, eval (.Call (.Name "set" p2) [e] [] pos2) X.env) :: starEach [] X.env := by rfl) (hp2 : (backTo pos (starEach [] X.env)).any (·.1) = false := by rfl) :
    DN X E (.Call (.Name "sorted" p) [.Call (.Name "set" p2) [e] [] pos2] [] pos) (e1 sortSetB f) := by
  obtain ⟨t, a1, a2⟩ := he
  refine ⟨_, pe_callB (cr_sortB hc hu) hg hm hb (pa_cons (pe_callTy (cr_setB hc (by omega)) hg2 hm2 hb2 (pa_cons a1 pa_nil h1) (by decide) (by decide) h1 hp1) pa_nil h2) (by decide) (by decide) h2 hp2, fun σ τ R H Q hs s h => a2 σ τ R H _ hs s (post_bindN h fun d v R1 H1 x1 q1 k => ?_)⟩
  cases q1 with
  | lst g1 g2 =>
    rename_i l xs ds
    simp only [sortSetB, setOfB] at k
    split at k
    · rename_i ks hk
      split at k
      · rename_i hl
        obtain ⟨L0, e1, e2, e3⟩ := keys_run g2 hk
        subst e1
        have hl1 : ∀ L : List (Addr × List Int), (L.map (·.2)).Nodup → (∀ p ∈ L, p ∈ L0) → L.length + 1 < 4096 := fun L nd sb => by
          have h1 := hl.1
          have h2 : (L.map (·.2)).length ≤ (dd ks).length := nodup_le nd fun x hx => by
            obtain ⟨r, hr, rfl⟩ := List.mem_map.mp hx
            rw [mem_dd, e2]
            exact List.mem_map.mpr ⟨r, sb r hr, rfl⟩
          rw [List.length_map] at h2
          omega
        have s1 := x1.sub
        refine ⟨l, L0, rfl, .inl (ls_same s1 g1).sq, fun p hp => SqT.of (s1 _ _ (e3 p hp)), hl1, fun a L ha sub cov => ?_⟩
        have s2 : Same H1 (upd H1 a (SetO X.prog X.w a L)) := same_new ha
        have e4 : ∀ p ∈ L, R1 p.1 = some (.tup (p.2.map V.int)) := fun p hp => e3 p (sub p hp)
        refine ⟨a, L, rfl, upd_same, fun p hp => SqT.of (s2 _ _ (s1 _ _ (e4 p hp))), fun p hp => ?_, fun L1 q pm nd hq => ?_⟩
        · have hm : p.2 ∈ ks := by rw [e2]; exact List.mem_map.mpr ⟨p, sub p hp, rfl⟩
          have := List.all_eq_true.mp hl.2 _ hm
          intro z
          rw [z] at this
          cases this
        · have keq : (L1.mergeSort (PySem.W.dataLe false encL)).map encL = (riseK (dd ks)).map encK := by
            have m1 : (L1.mergeSort (PySem.W.dataLe false encL)).map encL = sortL (L1.map encL) := PySem.W.sort_maps (r := PySem.W.dataLe false encL) (s := leD') encL (fun a _ b _ => rfl)
            have m2 : L1.map encL = (L1.map (·.2)).map encK := by rw [List.map_map]; rfl
            rw [m1, m2, sortL_enc]
            congr 1
            refine riseK_uniq ((List.perm_ext_iff_of_nodup nd (nodup_dd _)).mpr fun x => ?_)
            rw [mem_dd]
            constructor
            · intro hx
              obtain ⟨r, hr, rfl⟩ := List.mem_map.mp hx
              rw [e2]
              exact List.mem_map.mpr ⟨r, sub r (pm.mem_iff.mp hr), rfl⟩
            · intro hx
              rw [e2] at hx
              obtain ⟨r, hr, rfl⟩ := List.mem_map.mp hx
              obtain ⟨r2, hr2, e⟩ := List.mem_map.mp (cov r hr)
              exact List.mem_map.mpr ⟨r2, pm.mem_iff.mpr hr2, e⟩
          have e5 : ∀ r ∈ L1.mergeSort (PySem.W.dataLe false encL), R1 r.1 = some (.tup (r.2.map V.int)) := fun r hr => e4 r (pm.mem_iff.mp ((List.mergeSort_perm _ _).mem_iff.mp hr))
          have ra : RpA X.K R1 ((L1.mergeSort (PySem.W.dataLe false encL)).map fun q => V.ref q.1) ((riseK (dd ks)).map encK) := by
            rw [← keq]
            exact refsL e5
          refine k q R1 _ ⟨Same.refl _, (s1.trans s2).trans (same_new hq), s2.trans (same_new hq), fun _ _ z => .inl z⟩ (s1.free (s2.free hq)) (s2.free hq) ⟨_, upd_same, ra⟩
      · exact k.elim
    · exact k.elim
  | tup g1 g2 =>
    rename_i l xs ds
    simp only [sortSetB, setOfB] at k
    split at k
    · rename_i ks hk
      split at k
      · rename_i hl
        obtain ⟨L0, e1, e2, e3⟩ := keys_run g2 hk
        subst e1
        have hl1 : ∀ L : List (Addr × List Int), (L.map (·.2)).Nodup → (∀ p ∈ L, p ∈ L0) → L.length + 1 < 4096 := fun L nd sb => by
          have h1 := hl.1
          have h2 : (L.map (·.2)).length ≤ (dd ks).length := nodup_le nd fun x hx => by
            obtain ⟨r, hr, rfl⟩ := List.mem_map.mp hx
            rw [mem_dd, e2]
            exact List.mem_map.mpr ⟨r, sb r hr, rfl⟩
          rw [List.length_map] at h2
          omega
        have s1 := x1.sub
        refine ⟨l, L0, rfl, .inr (SqT.of (s1 _ _ g1)), fun p hp => SqT.of (s1 _ _ (e3 p hp)), hl1, fun a L ha sub cov => ?_⟩
        have s2 : Same H1 (upd H1 a (SetO X.prog X.w a L)) := same_new ha
        have e4 : ∀ p ∈ L, R1 p.1 = some (.tup (p.2.map V.int)) := fun p hp => e3 p (sub p hp)
        refine ⟨a, L, rfl, upd_same, fun p hp => SqT.of (s2 _ _ (s1 _ _ (e4 p hp))), fun p hp => ?_, fun L1 q pm nd hq => ?_⟩
        · have hm : p.2 ∈ ks := by rw [e2]; exact List.mem_map.mpr ⟨p, sub p hp, rfl⟩
          have := List.all_eq_true.mp hl.2 _ hm
          intro z
          rw [z] at this
          cases this
        · have keq : (L1.mergeSort (PySem.W.dataLe false encL)).map encL = (riseK (dd ks)).map encK := by
            have m1 : (L1.mergeSort (PySem.W.dataLe false encL)).map encL = sortL (L1.map encL) := PySem.W.sort_maps (r := PySem.W.dataLe false encL) (s := leD') encL (fun a _ b _ => rfl)
            have m2 : L1.map encL = (L1.map (·.2)).map encK := by rw [List.map_map]; rfl
            rw [m1, m2, sortL_enc]
            congr 1
            refine riseK_uniq ((List.perm_ext_iff_of_nodup nd (nodup_dd _)).mpr fun x => ?_)
            rw [mem_dd]
            constructor
            · intro hx
              obtain ⟨r, hr, rfl⟩ := List.mem_map.mp hx
              rw [e2]
              exact List.mem_map.mpr ⟨r, sub r (pm.mem_iff.mp hr), rfl⟩
            · intro hx
              rw [e2] at hx
              obtain ⟨r, hr, rfl⟩ := List.mem_map.mp hx
              obtain ⟨r2, hr2, e⟩ := List.mem_map.mp (cov r hr)
              exact List.mem_map.mpr ⟨r2, pm.mem_iff.mpr hr2, e⟩
          have e5 : ∀ r ∈ L1.mergeSort (PySem.W.dataLe false encL), R1 r.1 = some (.tup (r.2.map V.int)) := fun r hr => e4 r (pm.mem_iff.mp ((List.mergeSort_perm _ _).mem_iff.mp hr))
          have ra : RpA X.K R1 ((L1.mergeSort (PySem.W.dataLe false encL)).map fun q => V.ref q.1) ((riseK (dd ks)).map encK) := by
            rw [← keq]
            exact refsL e5
          refine k q R1 _ ⟨Same.refl _, (s1.trans s2).trans (same_new hq), s2.trans (same_new hq), fun _ _ z => .inl z⟩ (s1.free (s2.free hq)) (s2.free hq) ⟨_, upd_same, ra⟩
      · exact k.elim
    · exact k.elim
  | _ => exact k.elim
end
end BS

namespace E3
open PySem PySem.Spec PyProof.Rows L2

inductive XR (α : Type) where
  | ok (a : α) (σ : SS)
  | exc (e : Exn) (σ : SS)
  | stuck
def XR.bind {α β : Type} (r : XR α) (k : α → SS → XR β) : XR β := match r with
  | .ok a σ => k a σ
  | .exc e σ => .exc e σ
  | .stuck => .stuck
@[simp] theorem XR.bind_ok {α β : Type} (a : α) (σ : SS) (k : α → SS → XR β) : (XR.ok a σ).bind k = k a σ := rfl
@[simp] theorem XR.bind_exc {α β : Type} (e : Exn) (σ : SS) (k : α → SS → XR β) : (XR.exc e σ : XR α).bind k = .exc e σ := rfl
@[simp] theorem XR.bind_stuck {α β : Type} (k : α → SS → XR β) : (XR.stuck : XR α).bind k = .stuck := rfl
def XR.of {α : Type} (σ : SS) (r : Res α) : XR α := match r with
  | .ok a => .ok a σ
  | .exc e => .exc e σ
  | .stuck => .stuck
@[simp] theorem XR.of_ok {α : Type} (a : α) (σ : SS) : XR.of σ (.ok a) = .ok a σ := rfl
@[simp] theorem XR.of_exc {α : Type} (e : Exn) (σ : SS) : XR.of σ (.exc e : Res α) = .exc e σ := rfl
@[simp] theorem XR.of_stuck {α : Type} (σ : SS) : XR.of σ (.stuck : Res α) = .stuck := rfl
def thenX {α : Type} (r : XR α) (k : α → SS → SR) : SR := match r with
  | .ok a σ => k a σ
  | .exc e σ => .exc e σ
  | .stuck => .stuck
@[simp] theorem thenX_ok {α : Type} (a : α) (σ : SS) (k : α → SS → SR) : thenX (.ok a σ) k = k a σ := rfl
@[simp] theorem thenX_exc {α : Type} (e : Exn) (σ : SS) (k : α → SS → SR) : thenX (.exc e σ : XR α) k = .exc e σ := rfl
@[simp] theorem thenX_stuck {α : Type} (k : α → SS → SR) : thenX (.stuck : XR α) k = .stuck := rfl
abbrev XF := SS → XR D

def XPost {α β : Type} (X : Cx) (E : WX) (rel : Hp → β → α → Prop) (R0 H0 R : Hp) (τ : L2.St) (Q : β → Hp → Prop) : XR α → Prop
  | .ok d σ => ∀ v R' H', Same R R' → RO X.K R0 H0 R' H' σ τ → rel R' v d → Q v H'
  | .exc e σ => ∀ c dx R' H', RO X.K R0 H0 R' H' σ τ → ExL X.K X.mg H0 e c dx H' → E c dx τ H'
  | .stuck => False
structure XE (X : Cx) (E : WX) (e : Expr) (f : SS → XR D) : Prop where
  run : ∃ t : TE, PE X e t ∧ ∀ (R0 H0 : Hp) (σ : SS) (τ : L2.St) (R H : Hp) (Q : VK), RO X.K R0 H0 R H σ τ → XPost X E (rV X.K) R0 H0 R τ Q (f σ) → t τ H Q
structure XA (X : Cx) (E : WX) (es : List Expr) (f : SS → XR (List D)) : Prop where
  run : ∃ t : TA, PA X es t ∧ ∀ (R0 H0 : Hp) (σ : SS) (τ : L2.St) (R H : Hp) (Q : List V → Hp → Prop), RO X.K R0 H0 R H σ τ → XPost X E (rA X.K) R0 H0 R τ Q (f σ) → t τ H Q
structure XT (X : Cx) (E : WX) (e : Expr) (f : SS → XR Bool) : Prop where
  run : ∃ t : TT, PT X e t ∧ ∀ (R0 H0 : Hp) (σ : SS) (τ : L2.St) (R H : Hp) (Q : Bool → Hp → Prop), RO X.K R0 H0 R H σ τ → XPost X E rB R0 H0 R τ Q (f σ) → t τ H Q
structure XW (X : Cx) (E : WX) (e : Expr) (f : SS → XR Bool) : Prop where
  run : ∃ t : TT, PW X e t ∧ ∀ (R0 H0 : Hp) (σ : SS) (τ : L2.St) (R H : Hp) (Q : Bool → Hp → Prop), RO X.K R0 H0 R H σ τ → XPost X E rB R0 H0 R τ Q (f σ) → t τ H Q

section
variable {X : Cx} {E : WX} {R0 H0 R H Rb : Hp} {σ : SS} {τ : L2.St}
theorem xstep {α β : Type} {rel : Hp → β → α → Prop} {Q : β → Hp → Prop} {r : XR α} {R1 : Hp} (s : Same R R1) (h : XPost X E rel R0 H0 R τ Q r) : XPost X E rel R0 H0 R1 τ Q r := by
  cases r with
  | ok d σ => exact fun v R' H' x q => h v R' H' (s.trans x) q
  | exc x σ => exact h
  | stuck => exact h
theorem xbind {α β γ δ : Type} {rel : Hp → β → α → Prop} {rel' : Hp → δ → γ → Prop} {Q : δ → Hp → Prop} {r : XR α} {g : α → SS → XR γ} {T : β → Hp → Prop} (h : XPost X E rel' R0 H0 R τ Q (r.bind g))
    (k : ∀ d v σ' R' H', Same R R' → RO X.K R0 H0 R' H' σ' τ → rel R' v d → XPost X E rel' R0 H0 R' τ Q (g d σ') → T v H') : XPost X E rel R0 H0 R τ T r := by
  cases r with
  | ok d σ => exact fun v R' H' s I q => k d v σ R' H' s I q (xstep s h)
  | exc x σ => exact h
  | stuck => exact h
theorem xof {α β : Type} {rel : Hp → β → α → Prop} {Q : β → Hp → Prop} {r : Res α} (I : RO X.K R0 H0 R H σ τ) (h : XPost X E rel R0 H0 R τ Q (.of σ r)) : Post X.K X.mg (xat E τ) rel R H Q r := by
  cases r with
  | ok d => exact fun v R' H' x q => h v R' H' x.rr (I.step x) q
  | exc x => exact fun c dx H' s y => h c dx R H' (I.same s) (y.back I.ext.hh)
  | stuck => exact h
theorem xnow {α β : Type} {rel : Hp → β → α → Prop} {Q : β → Hp → Prop} {d : α} {v : β} (I : RO X.K R0 H0 R H σ τ) (q : rel R v d) (h : XPost X E rel R0 H0 R τ Q (.ok d σ)) : Q v H := h v R H (Same.refl _) I q
theorem same_hide {K : PySem.W.Frag} {R' H' : Hp} (I : RO K R0 H0 R H σ τ) (e : Ext (full σ τ R H) H R' H') : Same R (hide σ τ R') := fun a o q => by
  have n : ¬ owned σ τ a := fun z => by rw [(I.ownd z).1] at q; cases q
  rw [hide_n n]
  exact e.rr _ _ (by rw [full_n n]; exact q)
variable {e a b : Expr} {es : List Expr} {f g : SS → XR D} {ga : SS → XR (List D)} {pos : Pos}
def xM (f : DS → Res D) : SS → XR D := fun σ => .of σ (f (mask σ))
def flatR (r : Res D) : Res D := match r with
  | .ok d => if flat d then .ok d else .stuck
  | r => r
def xV (f : DS → Res D) : SS → XR D := fun σ => .of σ (flatR (f (view σ)))
def xB (f : DS → Res Bool) : SS → XR Bool := fun σ => .of σ (f (view σ))
theorem xe_mask {f : DS → Res D} (h : DE X E e f) : XE X E e (xM f) := by
  obtain ⟨t, h1, h2⟩ := h
  exact ⟨t, h1, fun R0 H0 σ τ R H Q I q => h2 (mask σ) τ R H Q I.mask I.ext.sub (xof I q)⟩
theorem xe_view {f : DS → Res D} (h : DE X E e f) : XE X E e (xV f) := by
  obtain ⟨t, h1, h2⟩ := h
  refine ⟨t, h1, fun R0 H0 σ τ R H Q I q => h2 (view σ) τ (full σ τ R H) H Q I.viewed I.fullH ?_⟩
  have q' : XPost X E (rV X.K) R0 H0 R τ Q (.of σ (flatR (f (view σ)))) := q
  cases z : f (view σ) with
  | ok d =>
    rw [z] at q'
    by_cases hf : flat d = true
    · rw [show flatR (Res.ok d) = .ok d from if_pos hf] at q'
      exact fun v R' H' x y => q' v _ H' (same_hide I x) (I.stepF x).1 (Rp.flat (I.stepF x).2 y hf)
    · rw [show flatR (Res.ok d) = .stuck from if_neg hf] at q'; exact q'.elim
  | exc x => rw [z] at q'; exact fun c dx H' s y => q' c dx R H' (I.same s) (y.back I.ext.hh)
  | stuck => rw [z] at q'; exact q'
theorem xt_view {f : DS → Res Bool} (h : DT X E e f) : XT X E e (xB f) := by
  obtain ⟨t, h1, h2⟩ := h
  refine ⟨t, h1, fun R0 H0 σ τ R H Q I q => h2 (view σ) τ (full σ τ R H) H Q I.viewed I.fullH ?_⟩
  have q' : XPost X E rB R0 H0 R τ Q (.of σ (f (view σ))) := q
  cases z : f (view σ) with
  | ok d =>
    rw [z] at q'
    exact fun v R' H' x y => q' v _ H' (same_hide I x) (I.stepF x).1 y
  | exc x => rw [z] at q'; exact fun c dx H' s y => q' c dx R H' (I.same s) (y.back I.ext.hh)
  | stuck => rw [z] at q'; exact q'
def x2 (o : D → D → Res D) (f g : SS → XR D) : SS → XR D := fun σ => (f σ).bind fun x σ => (g σ).bind fun y σ => .of σ (o x y)
theorem x2_run {ta tb : TE} {Q : VK} {o : D → D → Res D} {r : V → V → Hp → VK → Prop} (ha : ∀ (R0 H0 : Hp) (σ : SS) (τ : L2.St) (R H : Hp) (Q : VK), RO X.K R0 H0 R H σ τ → XPost X E (rV X.K) R0 H0 R τ Q (f σ) → ta τ H Q)
    (hb : ∀ (R0 H0 : Hp) (σ : SS) (τ : L2.St) (R H : Hp) (Q : VK), RO X.K R0 H0 R H σ τ → XPost X E (rV X.K) R0 H0 R τ Q (g σ) → tb τ H Q)
    (ho : ∀ (v w : V) (x y : D) (R H : Hp) (Q : VK) (Ex : XK), Rp X.K R v x → Rp X.K R w y → Same R H → Post X.K X.mg Ex (rV X.K) R H Q (o x y) → r v w H Q)
    (I : RO X.K R0 H0 R H σ τ) (h : XPost X E (rV X.K) R0 H0 R τ Q (x2 o f g σ)) : ta τ H fun x H1 => tb τ H1 fun y H2 => r x y H2 Q := by
  refine ha R0 H0 σ τ R H _ I (xbind h fun x v σ1 R1 H1 s1 I1 q1 h1 => ?_)
  refine hb R0 H0 σ1 τ R1 H1 _ I1 (xbind h1 fun y w σ2 R2 H2 s2 I2 q2 h2 => ?_)
  exact ho v w x y R2 H2 Q _ (q1.mono s2) q2 I2.ext.sub (xof I2 h2)
theorem xe_op {op : Operator} {o : D → D → Res D} (ho : OpD X (binaryOp op) o) (ha : XE X E a f) (hb : XE X E b g) : XE X E (.BinOp a op b pos) (x2 o f g) := by
  obtain ⟨r, hr, q⟩ := ho
  obtain ⟨ta, pa, qa⟩ := ha
  obtain ⟨tb, pb, qb⟩ := hb
  exact ⟨_, pe_op hr pa pb, fun R0 H0 σ τ R H Q I h => x2_run (r := r) qa qb q I h⟩
theorem xe_cmp {op : CmpOp} {o : D → D → Res D} (ho : OpD X (compareOp op) o) (ha : XE X E a f) (hb : XE X E b g) (hm : behindInMarks op b = false := by first | exact nobehind _ (by decide) (by decide) | rfl) : XE X E (.Compare a [op] [b] pos) (x2 o f g) := by
  obtain ⟨r, hr, q⟩ := ho
  obtain ⟨ta, pa, qa⟩ := ha
  obtain ⟨tb, pb, qb⟩ := hb
  exact ⟨_, pe_cmpR hr pa pb hm, fun R0 H0 σ τ R H Q I h => x2_run (r := r) qa qb q I h⟩
def xTB (f : SS → XR D) : SS → XR Bool := fun σ => (f σ).bind fun d σ => .of σ (asB d)
theorem xt_cmp {op : CmpOp} {o : D → D → Res D} (ho : OpD X (compareOp op) o) (ha : XE X E a f) (hb : XE X E b g) (hm : behindInMarks op b = false := by first | exact nobehind _ (by decide) (by decide) | rfl) : XT X E (.Compare a [op] [b] pos) (xTB (x2 o f g)) := by
  obtain ⟨r, hr, q⟩ := ho
  obtain ⟨ta, pa, qa⟩ := ha
  obtain ⟨tb, pb, qb⟩ := hb
  refine ⟨_, pt_cmpR hr pa pb hm, fun R0 H0 σ τ R H Q I h => ?_⟩
  exact x2_run (r := r) qa qb q I (xbind h fun x v σ1 R1 H1 s1 I1 q1 h1 => asB_run q1 I1.ext.sub (xof I1 h1))
theorem xe_ix {o : D → D → Res D} (ho : IxD X o) (ha : XE X E a f) (hb : XE X E b g) (hs : PlainIx b := by exact fun _ _ => rfl) : XE X E (.Subscript a b pos) (x2 o f g) := by
  obtain ⟨r, hr, q⟩ := ho
  obtain ⟨ta, pa, qa⟩ := ha
  obtain ⟨tb, pb, qb⟩ := hb
  exact ⟨_, pe_ix hr pa pb hs, fun R0 H0 σ τ R H Q I h => x2_run (r := r) qa qb q I h⟩
variable {p q : SS → XR Bool} {rest : List Expr}
def xAnd (p q : SS → XR Bool) : SS → XR Bool := fun σ => (p σ).bind fun b σ => if b then q σ else .ok false σ
theorem xw_and1 (ha : XT X E a p) : XW X E (.BoolOp .And [a] pos) p := by
  obtain ⟨t, h1, h2⟩ := ha
  exact ⟨t, pw_and1 h1, h2⟩
theorem xw_and (ha : XT X E a p) (hb : XW X E (.BoolOp .And (b :: rest) pos) q) : XW X E (.BoolOp .And (a :: b :: rest) pos) (xAnd p q) := by
  obtain ⟨t, h1, h2⟩ := ha
  obtain ⟨u, h3, h4⟩ := hb
  refine ⟨_, pw_and h1 h3, fun R0 H0 σ τ R H Q I h => h2 R0 H0 σ τ R H _ I (xbind (rel := rB) h fun x v σ1 R1 H1 s1 I1 q1 k => ?_)⟩
  subst q1
  cases v with
  | true => exact h4 R0 H0 σ1 τ R1 H1 Q I1 k
  | false => exact xnow I1 (rel := rB) rfl k
theorem XW.pt (h : XW X E e p) : XT X E e p := by
  obtain ⟨t, a, b⟩ := h
  exact ⟨t, a.pt, b⟩
def xNil : SS → XR (List D) := fun σ => .ok [] σ
def xCons (f : SS → XR D) (g : SS → XR (List D)) : SS → XR (List D) := fun σ => (f σ).bind fun x σ => (g σ).bind fun xs σ => .ok (x :: xs) σ
theorem xa_nil : XA X E [] xNil := ⟨_, pa_nil, fun _ _ _ _ _ _ _ I h => xnow I RpA.nil h⟩
theorem xa_cons (ha : XE X E e f) (hr : XA X E es ga) (hs : starEach (e :: es) X.env = (false, eval e X.env) :: starEach es X.env := by rfl) : XA X E (e :: es) (xCons f ga) := by
  obtain ⟨t, h1, h2⟩ := ha
  obtain ⟨u, h3, h4⟩ := hr
  refine ⟨_, pa_cons h1 h3 hs, fun R0 H0 σ τ R H Q I h => h2 R0 H0 σ τ R H _ I (xbind h fun x v σ1 R1 H1 s1 I1 q1 k => ?_)⟩
  refine h4 R0 H0 σ1 τ R1 H1 _ I1 (xbind k fun xs vs σ2 R2 H2 s2 I2 q2 k2 => ?_)
  exact xnow I2 (RpA.cons (q1.mono s2) q2) k2
def xTup (g : SS → XR (List D)) : SS → XR D := fun σ => (g σ).bind fun ds σ => .of σ (tupD ds)
theorem xe_tup {x1} (h : XA X E es ga) : XE X E (.Tuple es x1 pos) (xTup ga) := by
  obtain ⟨t, h1, h2⟩ := h
  refine ⟨_, pe_tup h1, fun R0 H0 σ τ R H Q I h => h2 R0 H0 σ τ R H _ I (xbind h fun xs vs σ1 R1 H1 s1 I1 q1 k => ?_)⟩
  have k' := xof I1 k
  unfold tupD at k'
  by_cases hl : xs.length ≤ sizeLine
  · rw [if_pos hl] at k'
    exact ⟨by rw [q1.length]; exact hl, fun p hp => new_tup q1 I1.ext.sub hp k'⟩
  · rw [if_neg hl] at k'; exact k'.elim
def xLst (g : SS → XR (List D)) : SS → XR D := fun σ => (g σ).bind fun ds σ => .of σ (lstD ds)
theorem xe_lst (h : XA X E es ga) : XE X E (.List es pos) (xLst ga) := by
  obtain ⟨t, h1, h2⟩ := h
  refine ⟨_, pe_lst h1, fun R0 H0 σ τ R H Q I h => h2 R0 H0 σ τ R H _ I (xbind h fun xs vs σ1 R1 H1 s1 I1 q1 k => ?_)⟩
  have k' := xof I1 k
  unfold lstD at k'
  by_cases hl : xs.length ≤ sizeLine
  · rw [if_pos hl] at k'
    exact ⟨by rw [q1.length]; exact hl, fun p hp => new_lst q1 I1.ext.sub hp k'⟩
  · rw [if_neg hl] at k'; exact k'.elim
def xSl (f : SS → XR D) (lo hi : DS → Res (Option Int)) : SS → XR D := fun σ => (f σ).bind fun x σ => .of σ ((lo (mask σ)).bind fun l => (hi (mask σ)).bind fun u => slD x l u)
theorem xe_slice {lo hi : Option Expr} {fl fh : DS → Res (Option Int)} {p2 : Pos} (he : XE X E e f) (hl : DO X E lo fl) (hh : DO X E hi fh) : XE X E (.Subscript e (.Slice lo hi none p2) pos) (xSl f fl fh) := by
  obtain ⟨te, e1, e2⟩ := he
  obtain ⟨tl, l1, l2⟩ := hl
  obtain ⟨th, h1, h2⟩ := hh
  refine ⟨_, pe_slice (sl_list.or sl_tupA) e1 l1 h1, fun R0 H0 σ τ R H Q I h => ?_⟩
  refine e2 R0 H0 σ τ R H _ I (xbind h fun x v σ1 R1 H1 s1 I1 q1 k1 => ?_)
  refine l2 (mask σ1) τ R1 H1 _ I1.mask I1.ext.sub (post_bind I1.ext.sub (xof I1 k1) fun l l' R2 H2 x2 q2 k2 => ?_)
  subst q2
  refine h2 (mask σ1) τ R2 H2 _ (I1.mask.mono x2.rr) x2.sub (post_bind x2.sub k2 fun u u' R3 H3 x3 q3 k3 => ?_)
  subst q3
  have q4 := (q1.mono x2.rr).mono x3.rr
  cases q4 with
  | lst z1 z2 => exact .inl ⟨_, _, rfl, (ls_same x3.sub z1).sq, fun p hp => new_lst (z2.cut _ _) x3.sub hp k3⟩
  | tup z1 z2 =>
    rename_i a xs ds
    refine .inr ⟨a, xs, rfl, SqT.of (x3.sub _ _ z1), fun w => ?_, fun _ p hp => new_tup (z2.cut _ _) x3.sub hp k3⟩
    have k3' : Post X.K X.mg (xat E τ) (rV X.K) R3 H3 Q (.ok (.tuple (E3.cutD ds l' u'))) := k3
    rw [cutD_whole (by rw [← z2.length]; exact w)] at k3'
    exact Post.now x3.sub (Rp.tup z1 z2) k3'
  | _ => exact k3.elim
def xCall (F : List D → Res D) (g : SS → XR (List D)) : SS → XR D := fun σ => (g σ).bind fun ds σ => .of σ (F ds)
variable {k : Nat} {fa : Addr} {fd : FuncData} {ps : List Str} {F : List D → Res D} {x : Str} {p1 : Pos}
theorem xe_call (G : FnD X.prog X.w X.K X.mg X.base k fa fd ps F) (hr : Room k X.A) (hg : Gl X x) (hm : X.mg x = some (.ref fa)) (hk : PySem.W.keepIn X.K (.ref fa) = true) (hb : Binds X.K fd ps []) (tk : Takes X E)
    (hF : ∀ ds, ds.length ≠ ps.length → F ds = .stuck) (ha : XA X E (e :: es) ga) (hdb : (x == ("__debug__" : Str)) = false := by decide) (he : starEach (e :: es) X.env = (false, eval e X.env) :: starEach es X.env := by rfl) (hpl : (backTo pos (starEach es X.env)).any (·.1) = false := by rfl) :
    XE X E (.Call (.Name x p1) (e :: es) [] pos) (xCall F ga) := by
  obtain ⟨t, a1, a2⟩ := ha
  refine ⟨_, pe_callS G hr hg hm hk hb (fun σ => passAt tk σ) a1 hdb he hpl, fun R0 H0 σ τ R H Q I h => a2 R0 H0 σ τ R H _ I (xbind h fun d v σ1 R1 H1 s1 I1 q1 h1 => ?_)⟩
  have h1' := xof I1 h1
  refine ⟨?_, R1, d, I1.ext.sub, q1, h1'⟩
  by_cases hl : d.length = ps.length
  · rw [q1.length]; exact hl
  · rw [hF d hl] at h1'; exact h1'.elim
variable {id T : String}
theorem xe_callB {o : List D → Res D} (ho : CallD X (.builtin id) o) (hg : Gl X x) (hm : X.mg x = none) (hv : bootBuiltins x = some (.builtin id)) (ha : XA X E (e :: es) ga) (hn : x ≠ "__name__" := by decide) (hdb : (x == ("__debug__" : Str)) = false := by decide)
    (he : starEach (e :: es) X.env = (false, eval e X.env) :: starEach es X.env := by rfl) (hpl : (backTo pos (starEach es X.env)).any (·.1) = false := by rfl) :
    XE X E (.Call (.Name x p1) (e :: es) [] pos) (xCall o ga) := by
  obtain ⟨r, hr, q⟩ := ho
  obtain ⟨t, a1, a2⟩ := ha
  exact ⟨_, pe_callB hr hg hm hv a1 hn hdb he hpl, fun R0 H0 σ τ R H Q I h => a2 R0 H0 σ τ R H _ I (xbind h fun d v σ1 R1 H1 s1 I1 q1 h1 => q v d R1 H1 Q _ q1 I1.ext.sub (xof I1 h1))⟩
theorem xe_callTy {o : List D → Res D} (ho : CallD X (.type T) o) (hg : Gl X x) (hm : X.mg x = none) (hv : bootBuiltins x = some (.type T)) (ha : XA X E (e :: es) ga) (hn : x ≠ "__name__" := by decide) (hdb : (x == ("__debug__" : Str)) = false := by decide)
    (he : starEach (e :: es) X.env = (false, eval e X.env) :: starEach es X.env := by rfl) (hpl : (backTo pos (starEach es X.env)).any (·.1) = false := by rfl) :
    XE X E (.Call (.Name x p1) (e :: es) [] pos) (xCall o ga) := by
  obtain ⟨r, hr, q⟩ := ho
  obtain ⟨t, a1, a2⟩ := ha
  exact ⟨_, pe_callTy hr hg hm hv a1 hn hdb he hpl, fun R0 H0 σ τ R H Q I h => a2 R0 H0 σ τ R H _ I (xbind h fun d v σ1 R1 H1 s1 I1 q1 h1 => q v d R1 H1 Q _ q1 I1.ext.sub (xof I1 h1))⟩
end

def less (H : Hp) (a : Addr) : Hp := fun b => if b = a then none else H b
theorem less_at {H : Hp} {a : Addr} : less H a a = none := if_pos rfl
theorem less_ne {H : Hp} {a b : Addr} (h : b ≠ a) : less H a b = H b := if_neg h
abbrev PF := List D → List D → Res (D × List D)
def PostP (K : PySem.W.Frag) (a : Addr) (R H : Hp) (Q : VK) : Res (D × List D) → Prop
  | .ok (d, c) => ∀ v R' H' xs, Ext R (less H a) R' H' → R' a = none → H' a = some (.lst xs) → RpA K R' xs c → Rp K R' v d → Q v H'
  | _ => False
def spP (K : PySem.W.Frag) (n : Nat) (F : PF) : Sp := fun vs H Q _ =>
  vs.length = n ∧ ∃ a ws R c xs ds, vs = .ref a :: ws ∧ H a = some (.lst xs) ∧ R a = none ∧ RpA K R xs c ∧ Same R H ∧ RpA K R ws ds ∧ PostP K a R H Q (F c ds)
abbrev FnP (P : Program) (w : World) (K : PySem.W.Frag) (mg : Str → Option Value) (base : Heap) (k : Nat) (f : Addr) (fd : FuncData) (ps : List Str) (F : PF) : Prop :=
  FnOk P w K mg base (L2.CX P w) k f fd ps (spP K ps.length F)
theorem RO.pot {K : PySem.W.Frag} {R0 H0 R H R' H' : Hp} {σ : SS} {τ : L2.St} {i : Nat} {a : Addr} {c c' : List D} {xs : List V} (I : RO K R0 H0 R H σ τ) (hc : σ[i]? = some (some (.ow (.list c)))) (ht : τ[i]? = some (some (.ref a)))
    (e : Ext R (less H a) R' H') (hR : R' a = none) (hH : H' a = some (.lst xs)) (hx : RpA K R' xs c') : RO K R0 H0 R' H' (σ.set i (some (.ow (.list c')))) τ := by
  obtain ⟨a', q1, q2, q3, q4⟩ := I.ow i _ hc
  rw [ht] at q1; cases q1
  have hl : i < σ.length := (List.getElem?_eq_some_iff.mp hc).1
  refine ⟨⟨I.ext.rr.trans e.rr, e.sub, fun b o h => ?_, fun b o h => ?_⟩, fun j d h => ?_, fun j d h => ?_, fun j k d' d b z1 z2 z3 z4 => ?_, by rw [List.length_set]; exact I.len⟩
  · have nb : b ≠ a := fun z => by rw [z, q3] at h; cases h
    exact e.hh _ _ (by rw [less_ne nb]; exact I.ext.hh _ _ h)
  · rcases e.new b o h with z | z | z
    · exact I.ext.new b o z
    · by_cases nb : b = a
      · rw [nb, hR] at h; cases h
      · rw [less_ne nb] at z; exact .inr (.inl (I.ext.hh.free z))
    · exact .inr (.inr z)
  · by_cases hj : i = j
    · subst hj; rw [List.getElem?_set_self hl] at h; cases h
    · rw [List.getElem?_set_ne hj] at h
      obtain ⟨v, y1, y2⟩ := I.sh j d h
      exact ⟨v, y1, y2.mono e.rr⟩
  · by_cases hj : i = j
    · subst hj; rw [List.getElem?_set_self hl] at h; cases h
      exact ⟨a, ht, hR, q3, xs, hH, hx⟩
    · rw [List.getElem?_set_ne hj] at h
      obtain ⟨b, r1, r2, r3, r4⟩ := I.ow j d h
      have nb : b ≠ a := fun z => by subst z; exact hj (I.ne i j _ d b hc h ht r1)
      have keep : ∀ o, H b = some o → H' b = some o := fun o y => e.hh _ _ (by rw [less_ne nb]; exact y)
      obtain ⟨o', z1, z2, z3⟩ := r4.some
      refine ⟨b, r1, ?_, r3, ?_⟩
      · cases q : R' b with
        | none => rfl
        | some o =>
          rcases e.new b o q with z | z | ⟨ys, z⟩
          · rw [r2] at z; cases z
          · rw [less_ne nb, z1] at z; cases z
          · have w1 := keep _ z1
            rw [e.sub _ _ q] at w1; cases w1
            exact absurd z (z2 ys)
      · cases d with
        | list ds =>
          obtain ⟨vs, y1, y2⟩ := r4
          exact ⟨vs, keep _ y1, y2.mono e.rr⟩
        | dict kvs =>
          obtain ⟨vs, y1, y2⟩ := r4
          exact ⟨vs, keep _ y1, y2.mono e.rr⟩
        | _ => exact r4.elim
  · have back : ∀ m (x : D), (σ.set i (some (Slot.ow (.list c'))))[m]? = some (some (Slot.ow x)) → ∃ y, σ[m]? = some (some (Slot.ow y)) := fun m x h => by
      by_cases hm : i = m
      · subst hm; exact ⟨_, hc⟩
      · rw [List.getElem?_set_ne hm] at h; exact ⟨x, h⟩
    obtain ⟨y1, w1⟩ := back _ _ z1
    obtain ⟨y2, w2⟩ := back _ _ z2
    exact I.ne j k y1 y2 b w1 w2 z3 z4
def potK (i : Nat) (σ : SS) (F : List D → Res (D × List D)) : XR D := match σ[i]? with
  | some (some (.ow (.list c))) => match F c with
    | .ok (d, c') => .ok d (σ.set i (some (.ow (.list c'))))
    | _ => .stuck
  | _ => .stuck
def ownX {α : Type} (i : Nat) (σ : SS) (k : XR α) : XR α := match σ[i]? with
  | some (some (.ow (.list _))) => k
  | _ => .stuck
def xPot (i : Nat) (F : PF) (g : SS → XR (List D)) : SS → XR D := fun σ => ownX i σ ((g σ).bind fun ds σ => potK i σ fun c => F c ds)
section
variable {X : Cx} {E : WX} {e : Expr} {es : List Expr} {ga : SS → XR (List D)} {pos p1 np : Pos} {k : Nat} {fa : Addr} {fd : FuncData} {ps : List Str} {F : PF} {x y : Str}
theorem xe_pot (i : Nat) (hv : IsV X i y np) (G : FnP X.prog X.w X.K X.mg X.base k fa fd ps F) (hr : Room k X.A) (hg : Gl X x) (hm : X.mg x = some (.ref fa)) (hk : PySem.W.keepIn X.K (.ref fa) = true) (hb : Binds X.K fd ps []) (tk : Takes X E)
    (hF : ∀ c ds, ds.length + 1 ≠ ps.length → F c ds = .stuck) (ha : XA X E es ga) (hdb : (x == ("__debug__" : Str)) = false := by decide)
    (hst : starEach (.Name y np :: es) X.env = (false, eval (.Name y np) X.env) :: starEach es X.env := by rfl) (hpl : (backTo pos (starEach es X.env)).any (·.1) = false := by rfl) :
    XE X E (.Call (.Name x p1) (.Name y np :: es) [] pos) (xPot i F ga) := by
  obtain ⟨t, a1, a2⟩ := ha
  refine ⟨_, pe_callS (E := fun σ c d H => E c d σ H) G hr hg hm hk hb (fun σ => passAt tk σ) (pa_cons hv a1 hst) hdb hst hpl, fun R0 H0 σ τ R H Q I h => ?_⟩
  unfold xPot ownX at h
  split at h
  · rename_i c0 hc0
    obtain ⟨a, ht, _, _, _⟩ := I.ow i _ hc0
    refine ⟨_, ht, a2 R0 H0 σ τ R H _ I (xbind h fun ds vs σ1 R1 H1 s1 I1 q1 h1 => ?_)⟩
    unfold potK at h1
    split at h1
    · rename_i c hc
      obtain ⟨a', ht', r2, r3, xs, r4, r5⟩ := I1.ow i _ hc
      rw [ht] at ht'; cases ht'
      cases z : F c ds with
      | ok dc =>
        obtain ⟨d, c'⟩ := dc
        dsimp only at h1
        rw [z] at h1
        have hl : ds.length + 1 = ps.length := by
          by_cases hl : ds.length + 1 = ps.length
          · exact hl
          · rw [hF c ds hl] at z; cases z
        refine ⟨by rw [List.length_cons, q1.length]; exact hl, a, vs, R1, c, xs, ds, rfl, r4, r2, r5, I1.ext.sub, q1, ?_⟩
        rw [z]
        exact fun v R' H' ys x2 n1 n2 n3 n4 => h1 v R' H' x2.rr (I1.pot hc ht x2 n1 n2 n3) n4
      | exc _ => dsimp only at h1; rw [z] at h1; exact h1.elim
      | stuck => dsimp only at h1; rw [z] at h1; exact h1.elim
    · exact h1.elim
  · exact h.elim
end
end E3

namespace E3
open PySem PySem.Spec PyProof.Rows L2

def Fr (ps : List Nat) (τ0 τ : L2.St) : Prop := ∀ p ∈ ps, τ[p]? = τ0[p]?
inductive RK where
  | dat
  | new
  | pot (p : Nat)
def RK.at (K : PySem.W.Frag) (R0 H0 : Hp) (τ0 : L2.St) (σ : SS) (d : D) (v : V) (R H : Hp) (τ : L2.St) : RK → Prop
  | .dat => Ext R0 H0 R H ∧ Rp K R v d
  | .new => ∃ a, v = .ref a ∧ Ext R0 H0 R H ∧ R a = none ∧ H0 a = none ∧ Own K R H a d
  | .pot p => RO K R0 H0 R H σ τ ∧ τ[p]? = τ0[p]? ∧ Rp K R v d
theorem RK.outof {K : PySem.W.Frag} {R0 H0 R1 H1 : Hp} {τ0 : L2.St} {σ : SS} {d : D} {v : V} {R H : Hp} {τ : L2.St} (e1 : Ext R0 H0 R1 H1) : ∀ {k : RK}, k.at K R1 (un H0 R1) τ0 σ d v R H τ → k.at K R0 H0 τ0 σ d v R H τ
  | .dat, ⟨h1, h2⟩ => ⟨e1.outof h1, h2⟩
  | .new, ⟨a, h1, h2, h3, h4, h5⟩ => ⟨a, h1, e1.outof h2, h3, (un_none.mp h4).1, h5⟩
  | .pot p, ⟨h1, h2, h3⟩ => ⟨h1.outof e1, h2, h3⟩
def QPost (X : Cx) (E : WX) (ps : List Nat) (rk : RK) (τ0 : L2.St) (R0 H0 : Hp) (Dn : Ends) : SR → Prop
  | .ok .nx σ => ∀ R H τ, RO X.K R0 H0 R H σ τ → Fr ps τ0 τ → Dn.nx τ H
  | .ok .bk σ => ∀ R H τ, RO X.K R0 H0 R H σ τ → Fr ps τ0 τ → Dn.bk τ H
  | .ok .ct σ => ∀ R H τ, RO X.K R0 H0 R H σ τ → Fr ps τ0 τ → Dn.ct τ H
  | .ok (.rt d) σ => ∀ v R H τ, rk.at X.K R0 H0 τ0 σ d v R H τ → Dn.rt v H
  | .exc x σ => ∀ c dx R H τ, RO X.K R0 H0 R H σ τ → ExL X.K X.mg H0 x c dx H → E c dx τ H
  | .stuck => False
structure DQ1 (X : Cx) (E : WX) (ps : List Nat) (rk : RK) (st : Stmt) (g : SF) : Prop where
  run : ∃ t : TS, PS X st t ∧ ∀ (R0 H0 : Hp) (τ0 : L2.St) (σ : SS) (τ : L2.St) (R H : Hp) (Dn : Ends), RO X.K R0 H0 R H σ τ → Fr ps τ0 τ → QPost X E ps rk τ0 R0 H0 Dn (g σ) → t Dn τ H
structure DQs (X : Cx) (E : WX) (ps : List Nat) (rk : RK) (st : List Stmt) (g : SF) : Prop where
  run : ∃ t : TS, PSs X st t ∧ ∀ (R0 H0 : Hp) (τ0 : L2.St) (σ : SS) (τ : L2.St) (R H : Hp) (Dn : Ends), RO X.K R0 H0 R H σ τ → Fr ps τ0 τ → QPost X E ps rk τ0 R0 H0 Dn (g σ) → t Dn τ H
def noRet : SR → Prop
  | .ok (.rt _) _ => False
  | _ => True
section
variable {X : Cx} {E : WX} {ps : List Nat} {rk : RK} {st : Stmt} {sts : List Stmt} {e a b : Expr} {g h : SF} {pos pos' : Pos} {R0 H0 R H : Hp} {τ0 τ : L2.St} {σ : SS} {Dn : Ends}
theorem dq_lift (h : DS1 X E st g) : DQ1 X E [] .dat st g := by
  obtain ⟨t, h1, h2⟩ := h
  refine ⟨t, h1, fun R0 H0 τ0 σ τ R H Dn I _ q => h2 R0 H0 σ τ R H Dn I ?_⟩
  cases z : g σ with
  | ok o σ' =>
    rw [z] at q
    cases o with
    | nx => exact fun R H τ J => q R H τ J (fun _ w => (by cases w))
    | bk => exact fun R H τ J => q R H τ J (fun _ w => (by cases w))
    | ct => exact fun R H τ J => q R H τ J (fun _ w => (by cases w))
    | rt d => exact fun v R H x y => q v R H τ ⟨x, y⟩
  | exc x σ' => rw [z] at q; exact q
  | stuck => rw [z] at q; exact q
theorem dq_lift0 {rk : RK} (h : DS1 X E st g) (hn : ∀ σ, noRet (g σ)) : DQ1 X E [] rk st g := by
  obtain ⟨t, h1, h2⟩ := h
  refine ⟨t, h1, fun R0 H0 τ0 σ τ R H Dn I _ q => h2 R0 H0 σ τ R H Dn I ?_⟩
  have hn' := hn σ
  cases z : g σ with
  | ok o σ' =>
    rw [z] at q hn'
    cases o with
    | nx => exact fun R H τ J => q R H τ J (fun _ w => (by cases w))
    | bk => exact fun R H τ J => q R H τ J (fun _ w => (by cases w))
    | ct => exact fun R H τ J => q R H τ J (fun _ w => (by cases w))
    | rt d => exact hn'.elim
  | exc x σ' => rw [z] at q; exact q
  | stuck => rw [z] at q; exact q
theorem Fr.set {i : Nat} {x : Option V} (h : Fr ps τ0 τ) (hi : i ∉ ps) : Fr ps τ0 (τ.set i x) := fun p hp => by
  rw [List.getElem?_set_ne (fun z : i = p => hi (by rw [z]; exact hp))]; exact h p hp
theorem wipe_ne (τ : L2.St) {j : Nat} : ∀ {vs : List Nat}, j ∉ vs → (wipe τ vs)[j]? = τ[j]? := fun {vs} h => by
  rw [wipe_get, if_neg (fun z => h z.1)]
theorem Fr.wp {ix : List Nat} {τ' : L2.St} (h : Fr ps τ0 τ) (w : Wp ix τ τ') (hi : ∀ p ∈ ps, p ∉ ix) : Fr ps τ0 τ' := fun p hp => by
  have e := congrArg (fun l : L2.St => l[p]?) (w ix fun _ z => z)
  have e : (wipe τ' ix)[p]? = (wipe τ ix)[p]? := e
  rw [wipe_ne τ' (hi p hp), wipe_ne τ (hi p hp)] at e
  rw [e]; exact h p hp
theorem dqs_nil : DQs X E ps rk [] sNil := ⟨_, pss_nil, fun _ _ _ _ _ _ _ _ I F q => q _ _ _ I F⟩
theorem dqs_one (a : DQ1 X E ps rk st g) : DQs X E ps rk [st] g := by
  obtain ⟨t, h1, h2⟩ := a
  exact ⟨t, pss_one h1, h2⟩
theorem dqs_cons (a : DQ1 X E ps rk st g) (b : DQs X E ps rk sts h) : DQs X E ps rk (st :: sts) (sSeq g h) := by
  obtain ⟨t, h1, h2⟩ := a
  obtain ⟨u, h3, h4⟩ := b
  refine ⟨_, pss_cons h1 h3, fun R0 H0 τ0 σ τ R H Dn I F q => h2 R0 H0 τ0 σ τ R H _ I F ?_⟩
  unfold sSeq at q
  cases z : g σ with
  | ok o σ' =>
    rw [z] at q
    cases o with
    | nx => exact fun R' H' τ' J F' => h4 R0 H0 τ0 σ' τ' R' H' Dn J F' q
    | bk => exact q
    | ct => exact q
    | rt d => exact q
  | exc x σ' => rw [z] at q; exact q
  | stuck => rw [z] at q; exact q
theorem dqs_freeze (i : Nat) (b : DQs X E ps rk sts h) : DQs X E ps rk sts (sFreeze i h) := by
  obtain ⟨u, h3, h4⟩ := b
  refine ⟨u, h3, fun R0 H0 τ0 σ τ R H Dn I F q => ?_⟩
  unfold sFreeze at q
  split at q
  · rename_i c z
    obtain ⟨R', J⟩ := I.freeze z
    exact h4 R0 H0 τ0 _ τ R' H Dn J F q
  · exact h4 R0 H0 τ0 σ τ R H Dn I F q
theorem dq_pass : DQ1 X E ps rk (.Pass pos) sNil := ⟨_, ps_pass, fun _ _ _ _ _ _ _ _ I F q => q _ _ _ I F⟩
theorem dq_break : DQ1 X E ps rk (.Break pos) sBreak := ⟨_, ps_break, fun _ _ _ _ _ _ _ _ I F q => q _ _ _ I F⟩
theorem dq_cont : DQ1 X E ps rk (.Continue pos) sCont := ⟨_, ps_continue, fun _ _ _ _ _ _ _ _ I F q => q _ _ _ I F⟩
theorem xthen {α β : Type} {rel : Hp → β → α → Prop} {r : XR α} {k : α → SS → SR} {T : β → Hp → Prop} (q : QPost X E ps rk τ0 R0 H0 Dn (thenX r k))
    (z : ∀ d v σ' R' H', Same R R' → RO X.K R0 H0 R' H' σ' τ → rel R' v d → QPost X E ps rk τ0 R0 H0 Dn (k d σ') → T v H') : XPost X E rel R0 H0 R τ T r := by
  cases r with
  | ok d σ => exact fun v R' H' s I y => z d v σ R' H' s I y q
  | exc x σ => exact fun c dx R' H' I y => q c dx R' H' τ I y
  | stuck => exact q
def qRet (f : SS → XR D) : SF := fun σ => thenX (f σ) fun d σ => .ok (.rt d) σ
theorem dq_ret {f : SS → XR D} (he : XE X E e f) : DQ1 X E ps .dat (.Return (some e) pos) (qRet f) := by
  obtain ⟨t, h1, h2⟩ := he
  exact ⟨_, ps_ret h1, fun R0 H0 τ0 σ τ R H Dn I F q => h2 R0 H0 σ τ R H _ I (xthen q fun d v σ' R' H' s J y k => k v R' H' τ ⟨J.ext, y⟩)⟩
theorem dq_retP {f : SS → XR D} {p : Nat} (he : XE X E e f) (hp : p ∈ ps) : DQ1 X E ps (.pot p) (.Return (some e) pos) (qRet f) := by
  obtain ⟨t, h1, h2⟩ := he
  exact ⟨_, ps_ret h1, fun R0 H0 τ0 σ τ R H Dn I F q => h2 R0 H0 σ τ R H _ I (xthen q fun d v σ' R' H' s J y k => k v R' H' τ ⟨J, F p hp, y⟩)⟩
theorem dq_retN {f : DS → Res D} (he : DN X E e f) : DQ1 X E ps .new (.Return (some e) pos) (qRet (xM f)) := by
  obtain ⟨t, h1, h2⟩ := he
  refine ⟨_, ps_ret h1, fun R0 H0 τ0 σ τ R H Dn I F q => h2 (mask σ) τ R H _ I.mask I.ext.sub ?_⟩
  unfold qRet xM at q
  cases z : f (mask σ) with
  | ok d =>
    rw [z] at q
    exact fun a R' H' x n1 n2 w => q (.ref a) R' H' τ ⟨a, rfl, I.ext.trans x, n1, I.ext.hh.free n2, w⟩
  | exc x => rw [z] at q; exact fun c dx H' s y => q c dx R H' τ (I.same s) (y.back I.ext.hh)
  | stuck => rw [z] at q; exact q
def qIf (p : SS → XR Bool) (g h : SF) : SF := fun σ => thenX (p σ) fun b σ => if b then g σ else h σ
theorem dq_if {c : Expr} {s1 s2 : List Stmt} {p : SS → XR Bool} (hc : XT X E c p) (ha : DQs X E ps rk s1 g) (hb : DQs X E ps rk s2 h) : DQ1 X E ps rk (.If c s1 s2 pos) (qIf p g h) := by
  obtain ⟨t, h1, h2⟩ := hc
  obtain ⟨ta, a1, a2⟩ := ha
  obtain ⟨tb, b1, b2⟩ := hb
  refine ⟨_, ps_if h1 a1 b1, fun R0 H0 τ0 σ τ R H Dn I F q => h2 R0 H0 σ τ R H _ I (xthen (rel := rB) q fun d v σ' R' H' s J y k => ?_)⟩
  subst y
  cases v with
  | true => exact a2 R0 H0 τ0 σ' τ R' H' Dn J F k
  | false => exact b2 R0 H0 τ0 σ' τ R' H' Dn J F k
variable {x y : Str} {i : Nat}
def qSet (i : Nat) (f : SS → XR D) : SF := fun σ => thenX (f σ) fun d σ => .ok .nx (σ.set i (some (.sh d)))
theorem dq_set {f : SS → XR D} (i : Nat) (hN : X.N.Nodup) (hi : X.N[i]? = some x) (hx : Loc X.env.scope x) (he : XE X E e f) (hp : i ∉ ps := by decide) (hs : swapsWith e (some (.Name x pos')) pos.line X.env = pure false := by rfl) (hf : X.fn x = true ∨ X.env.scope.names.lookup x = some .local := by first | exact .inl rfl | exact .inr rfl | assumption) :
    DQ1 X E ps rk (.Assign [.Name x pos'] e pos) (qSet i f) := by
  obtain ⟨t, e1, e2⟩ := he
  exact ⟨_, ps_set hN hi hx e1 hs hf, fun R0 H0 τ0 σ τ R H Dn I F q => e2 R0 H0 σ τ R H _ I (xthen q fun d v σ' R' H' s J y z => z _ _ _ (J.put y) (F.set hp))⟩
def qNew (i : Nat) (f : DS → Res D) : SF := sNew i f
theorem dq_new {f : DS → Res D} (i : Nat) (hN : X.N.Nodup) (hi : X.N[i]? = some x) (hx : Loc X.env.scope x) (he : DN X E e f) (hp : i ∉ ps := by decide) (hs : swapsWith e (some (.Name x pos')) pos.line X.env = pure false := by rfl) (hf : X.fn x = true ∨ X.env.scope.names.lookup x = some .local := by first | exact .inl rfl | exact .inr rfl | assumption) :
    DQ1 X E ps rk (.Assign [.Name x pos'] e pos) (sNew i f) := by
  obtain ⟨t, e1, e2⟩ := he
  refine ⟨_, ps_set hN hi hx e1 hs hf, fun R0 H0 τ0 σ τ R H Dn I F q => e2 (mask σ) τ R H _ I.mask I.ext.sub ?_⟩
  unfold sNew at q
  cases z : f (mask σ) with
  | ok d =>
    rw [z] at q
    exact fun a R' H' x n1 n2 w => q R' H' _ ((I.step x).putO n1 (I.ext.hh.free n2) w (RO.notOwned I n2)) (F.set hp)
  | exc x => rw [z] at q; exact fun c dx H' s y => q c dx R H' τ (I.same s) (y.back I.ext.hh)
  | stuck => rw [z] at q; exact q
theorem dq_newV {f : DS → Res D} (i : Nat) (hN : X.N.Nodup) (hi : X.N[i]? = some x) (hx : Loc X.env.scope x) (he : DN X E e f) (hp : i ∉ ps := by decide) (hs : swapsWith e (some (.Name x pos')) pos.line X.env = pure false := by rfl) (hf : X.fn x = true ∨ X.env.scope.names.lookup x = some .local := by first | exact .inl rfl | exact .inr rfl | assumption) :
    DQ1 X E ps rk (.Assign [.Name x pos'] e pos) (sNewV i f) := by
  obtain ⟨t, e1, e2⟩ := he
  refine ⟨_, ps_set hN hi hx e1 hs hf, fun R0 H0 τ0 σ τ R H Dn I F q => e2 (view σ) τ (full σ τ R H) H _ I.viewed I.fullH ?_⟩
  unfold sNewV at q
  cases z : f (view σ) with
  | ok d =>
    rw [z] at q
    have q' : QPost X E ps rk τ0 R0 H0 Dn (if flatC d then .ok .nx (σ.set i (some (.ow d))) else .stuck) := q
    by_cases hf : flatC d = true
    · rw [if_pos hf] at q'
      refine fun a R' H' x n1 n2 w => ?_
      obtain ⟨J, tu⟩ := I.stepF x
      have na : ¬ owned σ τ a := RO.notOwned I n2
      refine q' _ H' _ (J.putO (by rw [hide_n na]; exact n1) (I.ext.hh.free n2) ?_ na) (F.set hp)
      cases d with
      | list ds =>
        obtain ⟨vs, w1, w2⟩ := w
        exact ⟨vs, w1, RpA.flat tu w2 hf⟩
      | _ => cases hf
    · rw [if_neg hf] at q'; exact q'.elim
  | exc x => rw [z] at q; exact fun c dx H' s y => q c dx R H' τ (I.same s) (y.back I.ext.hh)
  | stuck => rw [z] at q; exact q
def qNewL (i : Nat) (ga : SS → XR (List D)) : SF := fun σ => thenX (ga σ) fun ds σ => if ds.length ≤ sizeLine then .ok .nx (σ.set i (some (.ow (.list ds)))) else .stuck
theorem dq_newL {es : List Expr} {ga : SS → XR (List D)} {lp : Pos} (i : Nat) (hN : X.N.Nodup) (hi : X.N[i]? = some x) (hx : Loc X.env.scope x) (he : XA X E es ga) (hp : i ∉ ps := by decide) (hs : swapsWith (.List es lp) (some (.Name x pos')) pos.line X.env = pure false := by rfl) (hf : X.fn x = true ∨ X.env.scope.names.lookup x = some .local := by first | exact .inl rfl | exact .inr rfl | assumption) :
    DQ1 X E ps rk (.Assign [.Name x pos'] (.List es lp) pos) (qNewL i ga) := by
  obtain ⟨t, e1, e2⟩ := he
  refine ⟨_, ps_set hN hi hx (pe_lst e1) hs hf, fun R0 H0 τ0 σ τ R H Dn I F q => e2 R0 H0 σ τ R H _ I (xthen q fun ds vs σ' R' H' s J y z => ?_)⟩
  by_cases hl : ds.length ≤ sizeLine
  · rw [if_pos hl] at z
    refine ⟨by rw [RpA.length y]; exact hl, fun p hp' => z R' _ _ ((J.same (same_new hp')).putO (J.ext.sub.free hp') (J.ext.hh.free hp') ⟨vs, upd_same, y⟩ (RO.notOwned J hp')) (F.set hp)⟩
  · rw [if_neg hl] at z; exact z.elim
def qAsg (p : GF) (f : SS → XR D) : SF := fun σ => thenX (f σ) fun d σ => optK (p d σ)
theorem dq_asg {tg : Expr} {p : GF} {ix : List Nat} {f : SS → XR D} (he : XE X E e f) (hg : DG X tg ix p) (hp : ∀ q ∈ ps, q ∉ ix := by decide) (hs : swapsWithSole [tg] e pos.line X.env = pure false := by rfl) (hw : swappedStores [tg] e X.env = pure none := by rfl)
    (h1 : (assignEach [tg] X.env).map (·.2) = [assign tg X.env] := by rfl) : DQ1 X E ps rk (.Assign [tg] e pos) (qAsg p f) := by
  obtain ⟨t, e1, e2⟩ := he
  obtain ⟨u, g1, g2⟩ := hg
  refine ⟨_, ps_asg e1 g1 hs hw h1, fun R0 H0 τ0 σ τ R H Dn I F q => e2 R0 H0 σ τ R H _ I (xthen q fun d v σ' R' H' s J y z => ?_)⟩
  cases w : p d σ' with
  | none => rw [w] at z; exact z.elim
  | some σ2 =>
    rw [w] at z
    exact g2 R0 H0 d v σ' σ2 τ R' H' _ J y w fun R2 H2 τ2 _ w2 J2 => z R2 H2 τ2 J2 (F.wp w2 hp)
def gStore (i : Nat) (k : Int) : GF := fun d σ => match σ[i]? with
  | some (some (.ow (.list c))) => (ixN c.length k).map fun n => σ.set i (some (.ow (.list (c.set n d))))
  | _ => none
theorem dg_store {k : Int} {j : Option Str} {kp np : Pos} {kk} (i : Nat) (hv : IsV X i x np)
    (hg : ∀ v, assign (.Subscript (.Name x np) (.Constant (.int k) kk kp) pos') X.env v = (do
      let ov ← holding [v] (eval (.Name x np) X.env)
      let iv ← holding [v, ov] (eval (.Constant (.int k) kk kp) X.env)
      standAt pos'
      holding [v, ov, iv] (setItem ov iv v)
      release [v, ov, iv] []) := by intro _; rfl) : DG X (.Subscript (.Name x np) (.Constant (.int k) kk kp) pos') [] (gStore i k) := by
  refine ⟨_, pg_sub hv pe_int set_list hg, fun R0 H0 d v σ σ' τ R H Q I r e q => ?_⟩
  unfold gStore at e
  split at e
  · rename_i c hc
    obtain ⟨a, h1, h2, h3, xs, h4, h5⟩ := I.ow i _ hc
    cases z : ixN c.length k with
    | none => rw [z] at e; cases e
    | some n =>
      rw [z] at e
      cases e
      exact ⟨_, h1, a, xs, k, n, rfl, rfl, h4, by rw [h5.length]; exact z, q R _ τ (Same.refl _) (Wp.refl _ _) (I.mut (d := .list (c.set n d)) hc h1 ⟨_, upd_same, h5.set r n⟩)⟩
  · cases e
variable {i' value : Expr} {np : Pos}
def qPut (i : Nat) (fk : SS → XR D) (fv : DS → Res D) : SF := fun σ => ownD i σ fun _ => thenR (fv (mask σ)) σ fun v => thenX (fk σ) fun k σ => ownD i σ fun kvs => putS i σ kvs k v
theorem putS_runQ {j : Nat} {dk dv : D} {k v : V} {a : Addr} {kvs : List (D × D)} (hc : σ[j]? = some (some (.ow (.dict kvs)))) (h1 : τ[j]? = some (some (.ref a))) (I : RO X.K R0 H0 R H σ τ) (F : Fr ps τ0 τ) (rk1 : Rp X.K R k dk) (rv : Rp X.K R v dv) (q : QPost X E ps rk τ0 R0 H0 Dn (putS j σ kvs dk dv)) :
    ∃ H4, DPut H a k v H4 ∧ Dn.nx τ H4 := by
  obtain ⟨a', h1', h2, h3, ks, h4, h5⟩ := I.ow j _ hc
  rw [h1] at h1'; cases h1'
  unfold putS at q
  split at q
  · rename_i ns hk
    split at q
    · rename_i hl
      obtain ⟨b, rfl, hb⟩ := key_run rk1 I.ext.sub hk
      exact ⟨_, DPut.t h4 hb (by rw [h5.length]; exact hl), q R _ τ (I.mut (d := .dict (putKD kvs ns dv)) hc h1 ⟨_, upd_same, h5.put rv⟩) F⟩
    · exact q.elim
  · exact q.elim
theorem dq_put {fk : SS → XR D} {fv : DS → Res D} (j : Nat) (hu : X.A.units + 65 < cLine) (hv : IsV X j x np) (hk : XE X E i' fk) (hval : DE X E value fv) (hs : swapsWith value (some (.Subscript (.Name x np) i' pos')) pos.line X.env = pure false := by rfl) :
    DQ1 X E ps rk (.Assign [.Subscript (.Name x np) i' pos'] value pos) (qPut j fk fv) := by
  obtain ⟨ta, a1, a2⟩ := hk
  obtain ⟨tb, b1, b2⟩ := hval
  refine ⟨_, ps_dput (by omega) hv a1 b1 hs, fun R0 H0 τ0 σ τ R H Dn I F q => ?_⟩
  unfold qPut ownD at q
  split at q
  · rename_i c0 hc0
    obtain ⟨a, h1, _⟩ := I.ow j _ hc0
    refine b2 (mask σ) τ R H _ I.mask I.ext.sub ?_
    cases w : fv (mask σ) with
    | ok dv =>
      rw [w] at q
      intro v R1 H1 e1 q1
      refine ⟨_, h1, a2 R0 H0 σ τ R1 H1 _ (I.step e1) (xthen q fun dk k σ' R' H' s J y z => ?_)⟩
      unfold ownD at z
      split at z
      · rename_i kvs hc
        obtain ⟨a', h1', _⟩ := J.ow j _ hc
        rw [h1] at h1'; cases h1'
        obtain ⟨H4, w1, w2⟩ := putS_runQ hc h1 J F y (q1.mono s) z
        exact ⟨a, H4, rfl, w1, w2⟩
      · exact z.elim
    | exc ex => rw [w] at q; exact fun cc dx H2 s y2 => q cc dx R H2 τ (I.same s) (y2.back I.ext.hh)
    | stuck => rw [w] at q; exact q
  · exact q.elim
variable {name : Str} {id : String} {apos : Pos} {m : MF} {es : List Expr} {ga : SS → XR (List D)}
def qMut (i : Nat) (m : MF) (g : SS → XR (List D)) : SF := fun σ => ownL i σ fun _ => thenX (g σ) fun ds σ => ownL i σ fun c => mutK i σ (m c ds) fun _ σ' => .ok .nx σ'
theorem dq_mut (i : Nat) (hv : IsV X i x np) (hm : MtD X id m) (hpe : PeM X (.Name x np) name id apos (e :: es) pos) (ha : XA X E (e :: es) ga)
    (hs : swapsWith (.Call (.Attribute (.Name x np) name apos) (e :: es) [] pos) none pos'.line X.env = pure false := by rfl) : DQ1 X E ps rk (.Expr (.Call (.Attribute (.Name x np) name apos) (e :: es) [] pos) pos') (qMut i m ga) := by
  obtain ⟨r, m1, m2⟩ := hm
  obtain ⟨t, a1, a2⟩ := ha
  refine ⟨_, ps_expr (hpe m1 hv a1) hs, fun R0 H0 τ0 σ τ R H Dn I F q => ?_⟩
  unfold qMut ownL at q
  split at q
  · rename_i c0 hc0
    obtain ⟨a, h1, h2, h3, xs, h4, h5⟩ := I.ow i _ hc0
    refine ⟨_, h1, tyL h4, a2 R0 H0 σ τ R H _ I (xthen q fun ds vs σ' R' H' s J y z => ?_)⟩
    unfold ownL at z
    split at z
    · rename_i c hc
      obtain ⟨b, q1, q2, q3, xs, q4, q5⟩ := J.ow i _ hc
      rw [h1] at q1; cases q1
      unfold mutK at z
      dsimp only at z
      split at z
      · rename_i d c' hmc
        exact m2 a xs c vs ds d c' R' H' _ q4 q2 q5 y J.ext.sub hmc fun v ys w1 w2 => z R' _ τ (J.mut (d := .list c') hc h1 ⟨ys, upd_same, w1⟩) F
      · exact z.elim
    · exact z.elim
  · exact q.elim
def qMut0 (i : Nat) (m : MF) : SF := sMut0 i m
theorem dq_mut0 (i : Nat) (hv : IsV X i x np) (hm : MtD X id m) (hpe : PeM0 X (.Name x np) name id apos pos)
    (hs : swapsWith (.Call (.Attribute (.Name x np) name apos) [] [] pos) none pos'.line X.env = pure false := by rfl) : DQ1 X E ps rk (.Expr (.Call (.Attribute (.Name x np) name apos) [] [] pos) pos') (sMut0 i m) := by
  obtain ⟨r, m1, m2⟩ := hm
  refine ⟨_, ps_expr (hpe m1 hv) hs, fun R0 H0 τ0 σ τ R H Dn I F q => ?_⟩
  unfold sMut0 ownL at q
  split at q
  · rename_i c hc
    obtain ⟨a, h1, h2, h3, xs, h4, h5⟩ := I.ow i _ hc
    unfold mutK at q
    dsimp only at q
    split at q
    · rename_i d c' hmc
      exact ⟨_, h1, tyL h4, m2 a xs c [] [] d c' R H _ h4 h2 h5 .nil I.ext.sub hmc fun v ys w1 w2 => q R _ τ (I.mut (d := .list c') hc h1 ⟨ys, upd_same, w1⟩) F⟩
    · exact q.elim
  · exact q.elim
variable {tg iter : Expr} {pt : GF} {ix : List Nat} {gb : SF} {body : List Stmt}
theorem forQ_run {H1 R1 : Hp} {J : It} {ds : List D} {tg' : TG} {tb : TS}
    (hg : ∀ (R0 H0 : Hp) (d : D) (v : V) (σ σ' : SS) (τ : L2.St) (R H : Hp) (Q : L2.St → Hp → Prop), RO X.K R0 H0 R H σ τ → Rp X.K R v d → pt d σ = some σ' → (∀ R' H' τ', Same R R' → Wp ix τ τ' → RO X.K R0 H0 R' H' σ' τ' → Q τ' H') → tg' v τ H Q)
    (hb : ∀ (R0 H0 : Hp) (τ0 : L2.St) (σ : SS) (τ : L2.St) (R H : Hp) (Dn : Ends), RO X.K R0 H0 R H σ τ → Fr ps τ0 τ → QPost X E ps rk τ0 R0 H0 Dn (gb σ) → tb Dn τ H)
    (hp : ∀ q ∈ ps, q ∉ ix) (I : RO X.K R0 H0 R1 H1 σ τ) (F : Fr ps τ0 τ) (w : Walk X.K J R1 ds) (q : QPost X E ps rk τ0 R0 H0 Dn (forS pt gb ds σ)) :
    ∃ W : Nat → Nat → L2.St → Hp → Prop, (∃ m, W 0 m τ H1) ∧ ∀ i m τ H, W i m τ H → (J.stop i H ∧ Dn.nx τ H) ∨ (J.go i H ∧ ∃ N : L2.St → Hp → Prop, (∀ τ' H', N τ' H' → ∃ m', m' < m ∧ W (i + 1) m' τ' H') ∧
      ∀ x H', J.yld i H x H' → tg' x τ H' fun τ2 H2 => tb { Dn with nx := N, ct := N, bk := Dn.nx } τ2 H2) := by
  have e1 := I.ext
  refine ⟨fun i m τ H => m = ds.length - i ∧ i ≤ ds.length ∧ ∃ σ R, Same R1 R ∧ RO X.K R0 H0 R H σ τ ∧ Fr ps τ0 τ ∧ QPost X E ps rk τ0 R0 H0 Dn (forS pt gb (ds.drop i) σ), ⟨ds.length, by simp, Nat.zero_le _, σ, R1, Same.refl _, I, F, by rw [List.drop_zero]; exact q⟩, ?_⟩
  rintro i m τ H ⟨rfl, hi, σ, R, sR, J1, F1, q1⟩
  obtain ⟨w1, w2⟩ := w R H sR J1.ext.sub
  by_cases hlt : i < ds.length
  · have hd : ds[i]? = some ds[i] := List.getElem?_eq_getElem hlt
    obtain ⟨go, yl⟩ := w1 i _ hd
    rw [List.drop_eq_getElem_cons hlt] at q1
    refine .inr ⟨go, fun τ' H' => ∃ σ' R', Same R1 R' ∧ RO X.K R0 H0 R' H' σ' τ' ∧ Fr ps τ0 τ' ∧ QPost X E ps rk τ0 R0 H0 Dn (forS pt gb (ds.drop (i + 1)) σ'), fun τ' H' ⟨σ', R', a, b, f, c⟩ => ⟨ds.length - (i + 1), by omega, rfl, hlt, σ', R', a, b, f, c⟩, fun x H' y => ?_⟩
    obtain ⟨R2, x2, r2⟩ := yl x H' y
    have J2 := J1.step x2
    have sR2 : Same R1 R2 := sR.trans x2.rr
    unfold forS at q1
    split at q1
    · exact q1.elim
    · rename_i σ1 hpt
      refine hg R0 H0 _ x σ σ1 τ R2 H' _ J2 r2 hpt fun R3 H3 τ3 s3 w3 J3 => ?_
      have sR3 : Same R1 R3 := sR2.trans s3
      refine hb R1 (un H0 R1) τ0 σ1 τ3 R3 H3 _ (J3.into e1.rr sR3) (F1.wp w3 hp) ?_
      cases z : gb σ1 with
      | ok o σ2 =>
        rw [z] at q1
        cases o with
        | nx => exact fun R4 H4 τ4 J4 F4 => ⟨σ2, R4, J4.ext.rr, J4.outof e1, F4, q1⟩
        | ct => exact fun R4 H4 τ4 J4 F4 => ⟨σ2, R4, J4.ext.rr, J4.outof e1, F4, q1⟩
        | bk => exact fun R4 H4 τ4 J4 F4 => q1 R4 H4 τ4 (J4.outof e1) F4
        | rt d => exact fun v R4 H4 τ4 x4 => q1 v R4 H4 τ4 (RK.outof e1 x4)
      | exc ex σ2 => rw [z] at q1; exact fun c dx R4 H4 τ4 J4 y4 => q1 c dx R4 H4 τ4 (J4.outof e1) (y4.back un_l)
      | stuck => rw [z] at q1; exact q1
  · have e : i = ds.length := by omega
    subst e
    rw [List.drop_length] at q1
    exact .inl ⟨w2, q1 R H τ J1 F1⟩
theorem dq_for {it : DS → Res (List D)} (hpo : PassesOwn (model X.prog X.w) X.A X.env X.xe) (hc : X.calm = true) (hi : DI X E tg iter it) (hg : DG X tg ix pt) (hb : DQs X E ps rk body gb) (hp : ∀ q ∈ ps, q ∉ ix := by decide) (hs : ∀ x, foldedSetIterable iter X.env x = pure x := by intro _; rfl) :
    DQ1 X E ps rk (.For tg iter body [] pos) (sFor it pt gb) := by
  obtain ⟨wi, i1, i2⟩ := hi
  obtain ⟨tg', g1, g2⟩ := hg
  obtain ⟨tb, b1, b2⟩ := hb
  refine ⟨_, ps_for hpo hc i1 g1 b1 hs, fun R0 H0 τ0 σ τ R H Dn I F q => i2 (mask σ) τ R H _ I.mask I.ext.sub ?_⟩
  unfold sFor at q
  cases z : it (mask σ) with
  | ok ds => rw [z] at q; exact fun J R' H' x w => forQ_run g2 b2 hp (I.step x) F w q
  | exc ex => rw [z] at q; exact fun c dx H' s y => q c dx R H' τ (I.same s) (y.back I.ext.hh)
  | stuck => rw [z] at q; exact q
theorem dq_forR {it : DS → Res (List D)} (hpo : PassesOwn (model X.prog X.w) X.A X.env X.xe) (hc : X.calm = true) (hi : DR X E tg iter it) (hg : DG X tg ix pt) (hb : DQs X E ps rk body gb) (hp : ∀ q ∈ ps, q ∉ ix := by decide) (hs : ∀ x, foldedSetIterable iter X.env x = pure x := by intro _; rfl) :
    DQ1 X E ps rk (.For tg iter body [] pos) (sForR it pt gb) := by
  obtain ⟨wi, i1, i2⟩ := hi
  obtain ⟨tg', g1, g2⟩ := hg
  obtain ⟨tb, b1, b2⟩ := hb
  refine ⟨_, ps_for hpo hc i1 g1 b1 hs, fun R0 H0 τ0 σ τ R H Dn I F q => i2 (view σ) τ (full σ τ R H) H _ I.viewed I.fullH ?_⟩
  unfold sForR at q
  cases z : it (view σ) with
  | ok ds => rw [z] at q; exact fun J R' H' x w => forQ_run g2 b2 hp (I.stepF x).1 F (w _) q
  | exc ex => rw [z] at q; exact fun c dx H' s y => q c dx R H' τ (I.same s) (y.back I.ext.hh)
  | stuck => rw [z] at q; exact q
def qForR (it : SS → XR (List D)) (p : GF) (body : SF) : SF := fun σ => thenX ((it σ).bind fun ds σ => .of σ (rng1 ds)) fun ds σ => forS p body ds σ
theorem dq_forRX {p0 rp : Pos} {r1 : Expr} {it : SS → XR (List D)} (hpo : PassesOwn (model X.prog X.w) X.A X.env X.xe) (hc : X.calm = true) (hgr : Gl X "range") (hm : X.mg "range" = none) (hi : XA X E [r1] it) (hg : DG X tg ix pt) (hb : DQs X E ps rk body gb) (hp : ∀ q ∈ ps, q ∉ ix := by decide)
    (hst : starEach [r1] X.env = [(false, eval r1 X.env)] := by rfl) (hs : ∀ x, foldedSetIterable (.Call (.Name "range" p0) [r1] [] rp) X.env x = pure x := by intro _; rfl) :
    DQ1 X E ps rk (.For tg (.Call (.Name "range" p0) [r1] [] rp) body [] pos) (qForR it pt gb) := by
  obtain ⟨t, i1, i2⟩ := hi
  obtain ⟨tg', g1, g2⟩ := hg
  obtain ⟨tb, b1, b2⟩ := hb
  refine ⟨_, ps_for hpo hc (pi_range1 hgr hm i1 hst) g1 b1 hs, fun R0 H0 τ0 σ τ R H Dn I F q => ?_⟩
  refine i2 R0 H0 σ τ R H _ I ?_
  unfold qForR at q
  cases z : it σ with
  | ok ds σ1 =>
    rw [z] at q
    intro vs R1 H1 s1 I1 r
    match ds, r, q with
    | [.int n], r, q =>
      obtain ⟨v, rfl, rv⟩ := one_inv r
      cases rv
      have q' : QPost X E ps rk τ0 R0 H0 Dn (thenX (.of σ1 (rng1 [.int n])) fun ds σ => forS pt gb ds σ) := q
      simp only [rng1] at q'
      split at q'
      · rename_i hl
        exact ⟨n, rfl, hl.1, hl.2, forQ_run g2 b2 hp I1 F (walk_range 0 n _ (by omega) R1) q'⟩
      · exact q'.elim
    | [], _, h1 => exact h1.elim
    | [.none], _, h1 => exact h1.elim
    | [.bool _], _, h1 => exact h1.elim
    | [.str _], _, h1 => exact h1.elim
    | [.list _], _, h1 => exact h1.elim
    | [.tuple _], _, h1 => exact h1.elim
    | [.dict _], _, h1 => exact h1.elim
    | d1 :: _ :: _, _, h1 => cases d1 <;> exact h1.elim
  | exc ex σ1 => rw [z] at q; exact fun c dx R' H' I' y => q c dx R' H' τ I' y
  | stuck => rw [z] at q; exact q
def qFor (f : SS → XR D) (p : GF) (body : SF) : SF := fun σ => thenX ((f σ).bind fun d σ => .of σ (seqOf d)) fun ds σ => forS p body ds σ
theorem dq_forX {f : SS → XR D} (hpo : PassesOwn (model X.prog X.w) X.A X.env X.xe) (hc : X.calm = true) (hi : XE X E iter f) (hg : DG X tg ix pt) (hb : DQs X E ps rk body gb) (hp : ∀ q ∈ ps, q ∉ ix := by decide) (hs : ∀ x, foldedSetIterable iter X.env x = pure x := by intro _; rfl) :
    DQ1 X E ps rk (.For tg iter body [] pos) (qFor f pt gb) := by
  obtain ⟨t, i1, i2⟩ := hi
  obtain ⟨tg', g1, g2⟩ := hg
  obtain ⟨tb, b1, b2⟩ := hb
  refine ⟨_, ps_for hpo hc (pi_seq i1) g1 b1 hs, fun R0 H0 τ0 σ τ R H Dn I F q => ?_⟩
  refine i2 R0 H0 σ τ R H _ I ?_
  unfold qFor at q
  cases z : f σ with
  | ok d σ1 =>
    rw [z] at q
    intro v R1 H1 s1 I1 r
    have q' : QPost X E ps rk τ0 R0 H0 Dn (thenX (.of σ1 (seqOf d)) fun ds σ => forS pt gb ds σ) := q
    cases r with
    | lst k1 k2 => exact ⟨_, rfl, .inl ⟨⟨_, (ls_same I1.ext.sub k1).sq⟩, forQ_run g2 b2 hp I1 F (walk_list k1 k2) q'⟩⟩
    | tup k1 k2 => exact ⟨_, rfl, .inr ⟨⟨_, SqT.of (I1.ext.sub _ _ k1)⟩, forQ_run g2 b2 hp I1 F (walk_tup k1 k2) q'⟩⟩
    | _ => exact q'.elim
  | exc ex σ1 => rw [z] at q; exact fun c dx R' H' I' y => q c dx R' H' τ I' y
  | stuck => rw [z] at q; exact q
end

section
variable {P : Program} {w : World} {K : PySem.W.Frag} {mg : Str → Option Value} {base : Heap}
theorem fn_mkQ {x qual : Str} {st : Stmt} {f : Addr} {fd : FuncData} {N ps : List Str} {k : Nat} {g : SF} (F : Fun K x qual st f fd) (S : FnScope N ps (defScope st))
    (hb : ∀ (cdv : Value) (A : Around) (outer : List Env) (s : Shared) (H : Hp) (Ex : XK), Room k (A.deeper (envOfC qual (defScope st) s.heap.objs.size f cdv)) →
      DQs (cxOf (L2.CX P w) P w K mg base N qual (defScope st) f cdv A outer s H Ex) (fun c d _ H => Ex c d H) [] .dat (defBody st) g) :
    FnOk P w K mg base (L2.CX P w) (k + 1) f fd ps (spD K mg ps.length (fnD N.length ps.length g)) := by
  refine F.okX S (fun vs H Q Ex h => h.1) (fun cdv A outer s H vs Q Ex hr h => ?_)
  obtain ⟨hl, R, ds, sR, hv, q⟩ := h
  obtain ⟨t, t1, t2⟩ := hb cdv A outer s H Ex hr
  refine ⟨t, t1, t2 R H (L2.start N vs) (startF N.length ds) (L2.start N vs) R H _ (start_ro sR hv) (fun _ z => by cases z) ?_⟩
  unfold fnD at q
  rw [if_pos (by rw [← hv.length]; exact hl)] at q
  cases z : g (startF N.length ds) with
  | ok o σ =>
    rw [z] at q
    cases o with
    | nx => exact fun R' H' τ' J _ => q _ R' H' J.ext Rp.non
    | rt d => exact fun v R' H' τ' x => q v R' H' x.1 x.2
    | bk => exact q.elim
    | ct => exact q.elim
  | exc e σ => rw [z] at q; exact fun c dx R' H' τ' J y => q c dx H' J.ext.hh y
  | stuck => rw [z] at q; exact q.elim
def endN : SR → Res D
  | .ok (.rt d) _ => .ok d
  | .exc e _ => .exc e
  | _ => .stuck
def fnN (N n : Nat) (g : SF) : List D → Res D := fun ds => if ds.length = n then endN (g (startF N ds)) else .stuck
theorem fnN_len {N n : Nat} {g : SF} : ∀ ds, ds.length ≠ n → fnN N n g ds = .stuck := fun ds h => if_neg h
def spN (K : PySem.W.Frag) (mg : Str → Option Value) (n : Nat) (F : List D → Res D) : Sp := fun vs H Q Ex =>
  vs.length = n ∧ ∃ R ds, Same R H ∧ RpA K R vs ds ∧ PostN K mg Ex R H Q (F ds)
abbrev FnN (P : Program) (w : World) (K : PySem.W.Frag) (mg : Str → Option Value) (base : Heap) (k : Nat) (f : Addr) (fd : FuncData) (ps : List Str) (F : List D → Res D) : Prop :=
  FnOk P w K mg base (L2.CX P w) k f fd ps (spN K mg ps.length F)
theorem fn_mkN {x qual : Str} {st : Stmt} {f : Addr} {fd : FuncData} {N ps : List Str} {k : Nat} {g : SF} (F : Fun K x qual st f fd) (S : FnScope N ps (defScope st))
    (hb : ∀ (cdv : Value) (A : Around) (outer : List Env) (s : Shared) (H : Hp) (Ex : XK), Room k (A.deeper (envOfC qual (defScope st) s.heap.objs.size f cdv)) →
      DQs (cxOf (L2.CX P w) P w K mg base N qual (defScope st) f cdv A outer s H Ex) (fun c d _ H => Ex c d H) [] .new (defBody st) g) :
    FnN P w K mg base (k + 1) f fd ps (fnN N.length ps.length g) := by
  refine F.okX S (fun vs H Q Ex h => h.1) (fun cdv A outer s H vs Q Ex hr h => ?_)
  obtain ⟨hl, R, ds, sR, hv, q⟩ := h
  obtain ⟨t, t1, t2⟩ := hb cdv A outer s H Ex hr
  refine ⟨t, t1, t2 R H (L2.start N vs) (startF N.length ds) (L2.start N vs) R H _ (start_ro sR hv) (fun _ z => by cases z) ?_⟩
  unfold fnN at q
  rw [if_pos (by rw [← hv.length]; exact hl)] at q
  cases z : g (startF N.length ds) with
  | ok o σ =>
    rw [z] at q
    cases o with
    | rt d =>
      rintro v R' H' τ' ⟨a, rfl, x1, x2, x3, x4⟩
      exact q a R' H' x1 x2 x3 x4
    | nx => exact q.elim
    | bk => exact q.elim
    | ct => exact q.elim
  | exc e σ => rw [z] at q; exact fun c dx R' H' τ' J y => q c dx H' J.ext.hh y
  | stuck => rw [z] at q; exact q.elim
def startP (N : Nat) (c : List D) (ds : List D) : SS := some (.ow (.list c)) :: (ds.map (fun d => some (.sh d)) ++ List.replicate (N - (ds.length + 1)) none)
def endP : SR → Res (D × List D)
  | .ok (.rt d) σ => match σ[(0 : Nat)]? with
    | some (some (.ow (.list c))) => .ok (d, c)
    | _ => .stuck
  | _ => .stuck
def fnP (N n : Nat) (g : SF) : PF := fun c ds => if ds.length + 1 = n then endP (g (startP N c ds)) else .stuck
theorem fnP_len {N n : Nat} {g : SF} : ∀ c ds, ds.length + 1 ≠ n → fnP N n g c ds = .stuck := fun c ds h => if_neg h
theorem start_roP {N : List Str} {a : Addr} {ws : List V} {xs : List V} {c ds : List D} {R H : Hp} (s : Same R H) (hH : H a = some (.lst xs)) (hR : R a = none) (hx : RpA K R xs c) (h : RpA K R ws ds) :
    RO K R (less H a) R H (startP N.length c ds) (L2.start N (.ref a :: ws)) := by
  have hl := h.length
  have sh : ∀ (i : Nat) (z : Slot), (startP N.length c ds)[i]? = some (some z) → (i = 0 ∧ z = .ow (.list c)) ∨ ∃ j d, i = j + 1 ∧ ds[j]? = some d ∧ z = .sh d := fun i z q => by
    cases i with
    | zero => left; unfold startP at q; rw [List.getElem?_cons_zero] at q; cases q; exact ⟨rfl, rfl⟩
    | succ j =>
      right
      unfold startP at q
      rw [List.getElem?_cons_succ] at q
      by_cases hi : j < ds.length
      · rw [List.getElem?_append_left (by rw [List.length_map]; exact hi), List.getElem?_map, List.getElem?_eq_getElem hi] at q
        cases q
        exact ⟨j, _, rfl, List.getElem?_eq_getElem hi, rfl⟩
      · rw [List.getElem?_append_right (by rw [List.length_map]; omega)] at q
        have := List.mem_of_getElem? q
        rw [List.mem_replicate] at this
        cases this.2
  have zero : (L2.start N (.ref a :: ws))[0]? = some (some (.ref a)) := by
    unfold L2.start
    rw [List.getElem?_append_left (by simp)]
    rfl
  have sl : Same (less H a) H := fun b o e => by
    by_cases nb : b = a
    · rw [nb, less_at] at e; cases e
    · rw [less_ne nb] at e; exact e
  refine ⟨⟨Same.refl _, s, sl, fun _ _ h => .inl h⟩, fun i d q => ?_, fun i d q => ?_, fun i j d e b q1 q2 _ _ => ?_, ?_⟩
  · rcases sh i _ q with ⟨_, z⟩ | ⟨j, d', rfl, h1, h2⟩
    · cases z
    · cases h2
      obtain ⟨v, z1, z2⟩ := h.get h1
      refine ⟨v, ?_, z2⟩
      unfold L2.start
      have hv : j < ws.length := (List.getElem?_eq_some_iff.mp z1).1
      rw [List.getElem?_append_left (by simp; omega), List.getElem?_map, List.getElem?_cons_succ, z1]
      rfl
  · rcases sh i _ q with ⟨rfl, z⟩ | ⟨j, d', _, _, z⟩
    · cases z
      exact ⟨a, zero, hR, less_at, xs, hH, hx⟩
    · cases z
  · rcases sh i _ q1 with ⟨rfl, z⟩ | ⟨_, _, _, _, z⟩
    · rcases sh j _ q2 with ⟨rfl, z⟩ | ⟨_, _, _, _, z⟩
      · rfl
      · cases z
    · cases z
  · unfold startP L2.start
    simp [hl]
theorem fn_mkP {x qual : Str} {st : Stmt} {f : Addr} {fd : FuncData} {N ps : List Str} {k : Nat} {g : SF} (F : Fun K x qual st f fd) (S : FnScope N ps (defScope st))
    (hb : ∀ (cdv : Value) (A : Around) (outer : List Env) (s : Shared) (H : Hp) (Ex : XK), Room k (A.deeper (envOfC qual (defScope st) s.heap.objs.size f cdv)) →
      DQs (cxOf (L2.CX P w) P w K mg base N qual (defScope st) f cdv A outer s H Ex) (fun c d _ H => Ex c d H) [0] (.pot 0) (defBody st) g) :
    FnP P w K mg base (k + 1) f fd ps (fnP N.length ps.length g) := by
  refine F.okX S (fun vs H Q Ex h => h.1) (fun cdv A outer s H vs Q Ex hr h => ?_)
  obtain ⟨hl, a, ws, R, c, xs, ds, rfl, hH, hR, hx, sR, hv, q⟩ := h
  obtain ⟨t, t1, t2⟩ := hb cdv A outer s H Ex hr
  refine ⟨t, t1, t2 R (less H a) (L2.start N (.ref a :: ws)) (startP N.length c ds) (L2.start N (.ref a :: ws)) R H _ (start_roP sR hH hR hx hv) (fun _ _ => rfl) ?_⟩
  unfold fnP at q
  rw [if_pos (by rw [← hv.length]; exact hl)] at q
  cases z : g (startP N.length c ds) with
  | ok o σ =>
    rw [z] at q
    cases o with
    | nx => exact q.elim
    | bk => exact q.elim
    | ct => exact q.elim
    | rt d =>
      rintro v R' H' τ' ⟨J, x2, x3⟩
      have q' : PostP K a R H Q (match σ[(0 : Nat)]? with
        | some (some (.ow (.list c))) => .ok (d, c)
        | _ => .stuck) := q
      split at q'
      · rename_i c' hc'
        obtain ⟨b, y1, y2, y3, ys, y4, y5⟩ := J.ow 0 _ hc'
        rw [x2] at y1
        have zero : (L2.start N (.ref a :: ws))[0]? = some (some (.ref a)) := by
          unfold L2.start
          rw [List.getElem?_append_left (by simp)]
          rfl
        rw [zero] at y1
        cases y1
        exact q' v R' H' ys J.ext y2 y4 y5 x3
      · exact q'.elim
  | exc e σ => rw [z] at q; exact q.elim
  | stuck => rw [z] at q; exact q.elim
end
section
variable {X : Cx} {E : WX} {k : Nat} {f : Addr} {fd : FuncData} {ps : List Str} {F : List D → Res D} {x : Str} {p pos : Pos} {e : Expr} {es : List Expr} {ga : DS → Res (List D)}
theorem dn_call (G : FnN X.prog X.w X.K X.mg X.base k f fd ps F) (hr : Room k X.A) (hg : Gl X x) (hm : X.mg x = some (.ref f)) (hk : PySem.W.keepIn X.K (.ref f) = true) (hb : Binds X.K fd ps []) (tk : Takes X E)
    (hF : ∀ ds, ds.length ≠ ps.length → F ds = .stuck) (ha : DA X E (e :: es) ga) (hdb : (x == ("__debug__" : Str)) = false := by decide) (he : starEach (e :: es) X.env = (false, eval e X.env) :: starEach es X.env := by rfl) (hpl : (backTo pos (starEach es X.env)).any (·.1) = false := by rfl) :
    DN X E (.Call (.Name x p) (e :: es) [] pos) (eCall F ga) := by
  obtain ⟨t, a1, a2⟩ := ha
  refine ⟨_, pe_callS (E := fun σ c d H => E c d σ H) G hr hg hm hk hb (fun σ => passAt tk σ) a1 hdb he hpl, fun σ τ R H Q hs s h => a2 σ τ R H _ hs s (post_bindN h fun d v R1 H1 e1 q1 h1 => ?_)⟩
  refine ⟨?_, R1, d, e1.sub, q1, h1⟩
  by_cases hl : d.length = ps.length
  · rw [q1.length]; exact hl
  · rw [hF d hl] at h1; exact h1.elim
theorem FnN.dat {P : Program} {w : World} {K : PySem.W.Frag} {mg : Str → Option Value} {base : Heap} {n : Nat} {f : Addr} {fd : FuncData} {ps : List Str} {F : List D → Res D} (G : FnN P w K mg base n f fd ps F) : FnD P w K mg base n f fd ps F :=
  FnOk.imp G fun vs H Q Ex ⟨h1, R, ds, h2, h3, h4⟩ => ⟨h1, R, ds, h2, h3, h4.toN⟩
end
end E3

namespace E3
open PySem PySem.Spec PyProof.Rows L2
def iKeysL (td : TE) : TI := fun σ H R => td σ H fun x H1 => ∃ d kvs, x = .ref d ∧ H1 d = some (.dT kvs) ∧ ∀ o, R (Itkt d o kvs) (upd H1 d (.frz o (.dT kvs)))
section
variable {X : Cx} {tg e : Expr} {td : TE}
theorem pi_keysL (he : PE X e td) : PI X tg e (iKeysL td) := by
  refine ⟨fun pins s σ H R I h => ?_⟩
  refine thn (he.run pins s σ H _ I h) fun u s1 ⟨x, H1, I1, rx, d, kvs, ex, hd, q⟩ => ?_
  subst ex
  obtain rfl : u = Value.ref d := rx
  obtain ⟨od, I2⟩ := I1.lock hd True.intro
  have hd2 : upd H1 d (.frz od (.dT kvs)) d = some (.frz od (.dT kvs)) := upd_same
  obtain ⟨hs, hgd, hx, es, ep, hdt, hsz, ent⟩ := I2.frzT hd2
  refine iter_keys hs hgd hx hdt (pi_one (tk := s1.toks) I2 _ (turn_keysT _ hdt) ⟨_, Heap.get?_push_size _ rfl, rfl, ?_⟩ (q od))
  rw [hsz] <;> rfl
end
def keysR : D → Res (List D)
  | .dict kvs => .ok (kvs.map (·.1))
  | _ => .stuck
theorem RpK.nth {K : PySem.W.Frag} {R : Hp} : ∀ {ks : List (List Key × V)} {kvs : List (D × D)} {i : Nat} {d : D}, RpK K R ks kvs → (kvs.map (·.1))[i]? = some d → ∃ ns : List Int, d = .tuple (ns.map .int) ∧ ∃ v, ks[i]? = some (ns.map Sum.inl, v)
  | _, _, _, _, .nil, h => by simp at h
  | _, _, 0, _, .cons (k := k) (v := v) _ _, h => by simp at h; exact ⟨k, h.symm, v, rfl⟩
  | _, _, i + 1, _, .cons _ r, h => by
    obtain ⟨ns, e, v, q⟩ := RpK.nth (i := i) r (by simpa using h)
    exact ⟨ns, e, v, by simpa using q⟩
theorem walk_keys {K : PySem.W.Frag} {R : Hp} {a : Addr} {o : Obj} {ks : List (List Key × V)} {kvs : List (D × D)} (h : R a = some (.frz o (.dT ks))) (q : RpK K R ks kvs) : Walk K (Itkt a o ks) R (kvs.map (·.1)) := fun R' H' s1 s2 => by
  have hH : H' a = some (.frz o (.dT ks)) := s2 _ _ (s1 _ _ h)
  have hl := q.length
  refine ⟨fun i d hd => ?_, hH, by rw [List.length_map, hl]; exact Nat.le_refl _⟩
  have hi : i < kvs.length := by
    have := (List.getElem?_eq_some_iff.mp hd).1
    rw [List.length_map] at this
    exact this
  refine ⟨⟨hH, by omega⟩, fun x H'' y => ?_⟩
  obtain ⟨rfl, k, v, b, z1, rfl, z2⟩ := y
  obtain ⟨ns, rfl, v', z3⟩ := q.nth hd
  rw [z1] at z3
  cases z3
  have sub : Same (addT R' H'' [b]) H'' := fun c u w => by
    by_cases hc : c ∈ [b]
    · rw [addT_in hc] at w; exact w
    · rw [addT_out hc] at w; exact s2 _ _ w
  refine ⟨addT R' H'' [b], ⟨fun c u w => ?_, sub, Same.refl _, fun c u w => ?_⟩, ?_⟩
  · by_cases hc : c ∈ [b]
    · rw [addT_in hc]; exact s2 _ _ w
    · rw [addT_out hc]; exact w
  · by_cases hc : c ∈ [b]
    · obtain rfl : c = b := by simpa using hc
      rw [addT_in hc, z2] at w
      cases w
      exact .inr (.inr ⟨_, rfl⟩)
    · rw [addT_out hc] at w; exact .inl w
  · refine .tup (xs := ns.map V.int) ?_ (RpA.ints ns)
    rw [addT_in (by simp), z2, List.map_map]
    rfl
theorem locked {R H : Hp} {a : Addr} {u : HO} {o : Obj} (s : Same R H) (n : R a = none) : Same (upd R a (.frz o u)) (upd H a (.frz o u)) := fun b x e => by
  by_cases hb : b = a
  · subst hb; rw [upd_same] at e ⊢; exact e
  · rw [upd_ne hb] at e ⊢; exact s _ _ e
section
variable {X : Cx} {E : WX} {tg e : Expr} {f : DS → Res D}
theorem di_keysN (he : DN X E e f) : DI X E tg e (fun σ => (f σ).bind keysR) := by
  obtain ⟨t, e1, e2⟩ := he
  refine ⟨_, pi_keysL e1, fun σ τ R H Rq hs s q => e2 σ τ R H _ hs s ?_⟩
  cases z : f σ with
  | ok d =>
    rw [z] at q
    intro a R1 H1 x n1 n2 w
    cases d with
    | dict kvs =>
      obtain ⟨ks, w1, w2⟩ := w
      refine ⟨a, ks, rfl, w1, fun o => ?_⟩
      have q' : Post X.K X.mg (xat E τ) (fun R' (J : It) ds => Walk X.K J R' ds) R H Rq (.ok (kvs.map (·.1))) := q
      have rr : Same R1 (upd R1 a (.frz o (.dT ks))) := same_new n1
      refine q' _ (upd R1 a (.frz o (.dT ks))) _ ⟨x.rr.trans rr, locked x.sub n1, fun b u eb => ?_, fun b u eb => ?_⟩ (walk_keys upd_same (w2.mono rr))
      · have nb : b ≠ a := fun z => by rw [z, n2] at eb; cases eb
        rw [upd_ne nb]; exact x.hh _ _ eb
      · by_cases hb : b = a
        · rw [hb]; exact .inr (.inl n2)
        · rw [upd_ne hb] at eb; exact x.new _ _ eb
    | _ => exact q.elim
  | exc ex => rw [z] at q; exact q
  | stuck => rw [z] at q; exact q
end
theorem RO.lockS {K : PySem.W.Frag} {R0 H0 R H : Hp} {σ : SS} {τ : L2.St} (I : RO K R0 H0 R H σ τ) {i : Nat} {kvs : List (D × D)} (h1 : σ[i]? = some (some (.ow (.dict kvs)))) : ∃ a ks, τ[i]? = some (some (.ref a)) ∧ H a = some (.dT ks) ∧
    ∀ o, ∃ R', RO K R0 H0 R' (upd H a (.frz o (.dT ks))) (σ.set i (some (.sh (.dict kvs)))) τ ∧ R' a = some (.frz o (.dT ks)) ∧ RpK K R' ks kvs := by
  obtain ⟨a, q1, q2, q3, ks, q4, q5⟩ := I.ow i _ h1
  refine ⟨a, ks, q1, q4, fun o => ?_⟩
  have rr : Same R (upd R a (.frz o (.dT ks))) := same_new q2
  have hl : i < σ.length := (List.getElem?_eq_some_iff.mp h1).1
  refine ⟨upd R a (.frz o (.dT ks)), ⟨⟨I.ext.rr.trans rr, locked I.ext.sub q2, fun b x e => ?_, fun b x e => ?_⟩, fun j e h => ?_, fun j e h => ?_, fun j k d' e b w1 w2 w3 w4 => ?_, by rw [List.length_set]; exact I.len⟩, upd_same, q5.mono rr⟩
  · have nb : b ≠ a := fun z => by rw [z, q3] at e; cases e
    rw [upd_ne nb]; exact I.ext.hh _ _ e
  · by_cases hb : b = a
    · rw [hb]; exact .inr (.inl q3)
    · rw [upd_ne hb] at e; exact I.ext.new _ _ e
  · by_cases hj : i = j
    · subst hj
      rw [List.getElem?_set_self hl] at h
      cases h
      exact ⟨_, q1, .dT (.inr ⟨o, upd_same⟩) (q5.mono rr)⟩
    · rw [List.getElem?_set_ne hj] at h
      obtain ⟨v, y1, y2⟩ := I.sh j e h
      exact ⟨v, y1, y2.mono rr⟩
  · by_cases hj : i = j
    · subst hj
      rw [List.getElem?_set_self hl] at h; cases h
    · rw [List.getElem?_set_ne hj] at h
      obtain ⟨b, r1, r2, r3, r4⟩ := I.ow j e h
      have nb : b ≠ a := fun z => by
        subst z
        exact hj (I.ne i j _ e b h1 h q1 r1)
      refine ⟨b, r1, by rw [upd_ne nb]; exact r2, r3, ?_⟩
      cases e with
      | list ds =>
        obtain ⟨vs, y1, y2⟩ := r4
        exact ⟨vs, by rw [upd_ne nb]; exact y1, y2.mono rr⟩
      | dict kk =>
        obtain ⟨vs, y1, y2⟩ := r4
        exact ⟨vs, by rw [upd_ne nb]; exact y1, y2.mono rr⟩
      | _ => exact r4.elim
  · have back : ∀ m (x : D), (σ.set i (some (Slot.sh (.dict kvs))))[m]? = some (some (Slot.ow x)) → σ[m]? = some (some (Slot.ow x)) := fun m x h => by
      by_cases hm : i = m
      · subst hm
        rw [List.getElem?_set_self hl] at h; cases h
      · rw [List.getElem?_set_ne hm] at h; exact h
    exact I.ne j k d' e b (back _ _ w1) (back _ _ w2) w3 w4
def sForK (i : Nat) (p : GF) (body : SF) : SF := fun σ => ownD i σ fun kvs => forS p body (kvs.map (·.1)) (σ.set i (some (.sh (.dict kvs))))
section
variable {X : Cx} {E : WX} {ps : List Nat} {rk : RK} {tg iter : Expr} {pt : GF} {ix : List Nat} {gb : SF} {body : List Stmt} {pos np : Pos} {x : Str}
theorem dq_forK (i : Nat) (hpo : PassesOwn (model X.prog X.w) X.A X.env X.xe) (hc : X.calm = true) (hv : IsV X i x np) (hg : DG X tg ix pt) (hb : DQs X E ps rk body gb) (hp : ∀ q ∈ ps, q ∉ ix := by decide) (hs : ∀ y, foldedSetIterable (.Name x np) X.env y = pure y := by intro _; rfl) :
    DQ1 X E ps rk (.For tg (.Name x np) body [] pos) (sForK i pt gb) := by
  obtain ⟨tg', g1, g2⟩ := hg
  obtain ⟨tb, b1, b2⟩ := hb
  refine ⟨_, ps_for hpo hc (pi_keysL hv) g1 b1 hs, fun R0 H0 τ0 σ τ R H Dn I F q => ?_⟩
  unfold sForK ownD at q
  split at q
  · rename_i kvs hkv
    obtain ⟨a, ks, h1, h2, h3⟩ := I.lockS hkv
    refine ⟨_, h1, a, ks, rfl, h2, fun o => ?_⟩
    obtain ⟨R', J, j1, j2⟩ := h3 o
    exact forQ_run g2 b2 hp J F (walk_keys j1 j2) q
  · exact q.elim
theorem ds_forK (i : Nat) (hpo : PassesOwn (model X.prog X.w) X.A X.env X.xe) (hc : X.calm = true) (hv : IsV X i x np) (hg : DG X tg ix pt) (hb : DSs X E body gb) (hs : ∀ y, foldedSetIterable (.Name x np) X.env y = pure y := by intro _; rfl) :
    DS1 X E (.For tg (.Name x np) body [] pos) (sForK i pt gb) := by
  obtain ⟨tg', g1, g2⟩ := hg
  obtain ⟨tb, b1, b2⟩ := hb
  refine ⟨_, ps_for hpo hc (pi_keysL hv) g1 b1 hs, fun R0 H0 σ τ R H Dn I q => ?_⟩
  unfold sForK ownD at q
  split at q
  · rename_i kvs hkv
    obtain ⟨a, ks, h1, h2, h3⟩ := I.lockS hkv
    refine ⟨_, h1, a, ks, rfl, h2, fun o => ?_⟩
    obtain ⟨R', J, j1, j2⟩ := h3 o
    exact for_run g2 b2 J (walk_keys j1 j2) q
  · exact q.elim
def qRetO (i : Nat) : SF := fun σ => match σ[i]? with
  | some (some (.ow d)) => .ok (.rt d) σ
  | _ => .stuck
theorem dq_retO (i : Nat) (hv : IsV X i x np) : DQ1 X E ps .new (.Return (some (.Name x np)) pos) (qRetO i) := by
  refine ⟨_, ps_ret hv, fun R0 H0 τ0 σ τ R H Dn I F q => ?_⟩
  unfold qRetO at q
  split at q
  · rename_i d hd
    obtain ⟨a, h1, h2, h3, h4⟩ := I.ow i _ hd
    exact ⟨_, h1, q (.ref a) R H τ ⟨a, rfl, I.ext, h2, h3, h4⟩⟩
  · exact q.elim
end
end E3

namespace E3
open PySem PySem.Spec PyProof.Rows L2

section
variable {X : Cx} {pins : List (Addr × Obj)} {σ : L2.St} {H : Hp} {s : Shared}
theorem track {a C : Addr} {d : Option Addr} {oe : Obj} {vs : Array Value} (I : Inv X pins σ H s) (there : s.heap.get? a = some oe) (is : Zc (.ref C) d oe) (rec : oe.data = .fields vs) (un : H a = none) (nl : a ≠ X.env.locals)
    (late : X.s_0.heap.get? a = none) (apart : ∀ p ∈ X.pn ++ pins, p.1 ≠ a) : Inv X pins σ (upd H a (.ext (ErO C a d))) s := by
  have old : ∀ b o, X.s_0.heap.get? b = some o → b ≠ a := fun b o e z => by
    rw [z, late] at e
    cases e
  have was : ∀ b u, H b = some u → b ≠ a := fun b u e z => by
    rw [z, un] at e
    cases e
  have up : ∀ b u, H b = some u → upd H a (.ext (ErO C a d)) b = some u := fun b u e => by
    rw [upd_ne (was b u e)]
    exact e
  refine ⟨I.ok, I.os, I.bare, ⟨I.base.keep, I.base.slot, fun b o e n hx => ?_, I.base.there, fun b xs e => up b _ (I.base.tups b xs e), fun b o xs e => up b _ (I.base.frzs b o xs e), fun b ps e => ?_⟩, I.loc, I.cell, ?_, fun x c e => ?_, fun p hp => ?_, fun b u e => ?_, I.len⟩
  · rw [upd_ne (old b o e)]
    exact I.base.free b o e n hx
  · obtain ⟨more, z⟩ := I.base.tbls b ps e
    exact ⟨more, up b _ z⟩
  · rw [upd_ne (Ne.symm nl)]
    exact I.free
  · have ne : c ≠ a := fun z => by
      obtain ⟨vc, oc, hoc, hdc⟩ := I.cell x c e
      rw [z, there] at hoc
      cases hoc
      rw [rec] at hdc
      cases hdc
    rw [upd_ne ne]
    exact I.freeC x c e
  · obtain ⟨p1, p2, p3⟩ := I.pin p hp
    exact ⟨p1, by rw [upd_ne (apart p hp)]; exact p2, p3⟩
  · by_cases hb : b = a
    · subst hb
      rw [upd_same] at e
      cases e
      exact ⟨⟨oe, vs, there, is, rec⟩, ⟨oe, there⟩, fun h1 h2 ⟨o1, v1, q1, q2, q3⟩ k => ⟨o1, v1, k _ q1, q2, q3⟩⟩
    · rw [upd_ne hb] at e
      exact (I.hok b u e).stay (fun _ _ _ q => q) (fun c q => up c _ q) fun c xs q => up c _ q
theorem intoSuite (I : Inv X pins σ H s) (a : Addr) : Inv (X.suite a (X.pn ++ pins)) [] σ H s :=
  ⟨I.ok.suite _ _, I.os, I.bare, I.base, I.loc, I.cell, I.free, I.freeC, fun p hp => I.pin p (by rw [List.append_nil] at hp; exact hp), I.hok, I.len⟩
theorem outofSuite {a : Addr} (I : Inv (X.suite a (X.pn ++ pins)) [] σ H s) (ok : X.Ok) : Inv X pins σ H s :=
  ⟨ok, I.os, I.bare, I.base, I.loc, I.cell, I.free, I.freeC, fun p hp => I.pin p (by rw [List.append_nil]; exact hp), I.hok, I.len⟩
end

structure Clause where
  c : Value
  i : Option Nat
  ts : Addr → Addr → Option Addr → TS
def putE : Option Nat → Option V → L2.St → L2.St
  | none, _, σ => σ
  | some i, v, σ => σ.set i v
def goneE (i : Option Nat) (D : Ends) : Ends := { nx := fun σ H => D.nx (putE i none σ) H, rt := D.rt, bk := fun σ H => D.bk (putE i none σ) H, ct := fun σ H => D.ct (putE i none σ) H }
def wCl (K : PySem.W.Frag) (Wout : WX) (D : Ends) : List Clause → WX
  | [], cls, d, σ, H => Wout cls d σ H
  | k :: r, cls, d, σ, H => ∃ b, PySem.W.exmOne K cls k.c = some b ∧ (b = true → ∃ C, cls = .ref C ∧ ∀ a, H a = none → k.ts a C d (goneE k.i D) (putE k.i (some (.ref a)) σ) (upd H a (.ext (ErO C a d)))) ∧ (b = false → wCl K Wout D r cls d σ H)
inductive ClOk (X : Cx) : List ExceptHandler → List Clause → Prop
  | nil : ClOk X [] []
  | nm {x n : Str} {k : Clause} {i : Nat} {b0 : Stmt} {suite : List Stmt} {np pos : Pos} {hds : List ExceptHandler} {ks : List Clause} : Names X x k.c → k.i = some i → X.N[i]? = some n → X.env.kindOf n = some .local →
      (∀ a C d pn, PSs (X.suite a pn) (b0 :: suite) (k.ts a C d)) → ClOk X hds ks → ClOk X (.ExceptHandler (some (.Name x np)) (some n) (b0 :: suite) pos :: hds) (k :: ks)
  | un {x : Str} {k : Clause} {b0 : Stmt} {suite : List Stmt} {np pos : Pos} {hds : List ExceptHandler} {ks : List Clause} : Names X x k.c → k.i = none →
      (∀ a C d pn, PSs (X.suite a pn) (b0 :: suite) (k.ts a C d)) → ClOk X hds ks → ClOk X (.ExceptHandler (some (.Name x np)) none (b0 :: suite) pos :: hds) (k :: ks)

section
variable {X : Cx} {pins : List (Addr × Obj)} {σ : L2.St} {H : Hp} {D : Ends}
theorem SP_out {a : Addr} {f : Flow} {s : Shared} (ok : X.Ok) (h : SP (X.suite a (X.pn ++ pins)) [] (goneE none D) f s) : SP X pins D f s := by
  cases f with
  | next => obtain ⟨σ6, H6, S6, q6⟩ := h; exact ⟨_, _, outofSuite S6 ok, q6⟩
  | brk => obtain ⟨σ6, H6, S6, q6⟩ := h; exact ⟨_, _, outofSuite S6 ok, q6⟩
  | cont => obtain ⟨σ6, H6, S6, q6⟩ := h; exact ⟨_, _, outofSuite S6 ok, q6⟩
  | ret u => obtain ⟨v6, σ6, H6, S6, r6, q6⟩ := h; exact ⟨_, _, _, outofSuite S6 ok, r6, q6⟩
theorem clauses {hds : List ExceptHandler} {ks : List Clause} (hN : X.N.Nodup) (hs : X.stack = X.env :: X.outer) (hf : X.env.frame = some X.env.locals) (ex0 : X.ex = []) {Wout : WX} (tk : Takes X Wout) (hk : ClOk X hds ks)
    {a : Addr} {B h3 : Heap} {sI s' : Shared} {cls : Value} {d : Option Addr} (J : Inv X pins σ H sI) (nb : ∀ b o, sI.heap.get? b = some o → b ∉ frs X.stack → B.get? b = some o) (up : sI.heap.UpToSlots h3)
    (flyF : HandSPX.FlyingZ B (X.env :: X.outer) a (Zc cls d) h3) (na : H a = none) (os : s'.os = sI.os) (ag : AllBare s'.gens) :
    wCl X.K Wout D ks cls d σ H → wpAny (model X.prog X.w) X.A (handleBy (.ref a) X.env hds) (SP X pins D) X.xe { s' with heap := h3 } := by
  have ok := J.ok
  have J3 : Inv X pins σ H { s' with heap := h3 } := J.landed nb flyF.1 up os ag
  obtain ⟨oeF, vsF, heF, hzF, hdF⟩ := flyF.there
  have nfr : a ∉ frs (X.env :: X.outer) := fun hm => by
    obtain ⟨_, o', e', hnf⟩ := flyF.2.2.1.mem hm
    rw [heF] at e'
    cases e'
    exact hnf _ hdF
  have notLoc : a ≠ X.env.locals := fun z => nfr (List.mem_filterMap.mpr ⟨X.env, List.mem_cons_self, by rw [hf, z]⟩)
  have notOut : a ∉ X.fs := fun hm =>
    have ⟨ev, hev, qv⟩ := List.mem_filterMap.mp hm
    nfr (List.mem_filterMap.mpr ⟨ev, List.mem_cons_of_mem _ hev, qv⟩)
  have noB : B.get? a = none := flyF.2.1
  have late : X.s_0.heap.get? a = none := by
    cases q : X.s_0.heap.get? a with
    | none => rfl
    | some o =>
      obtain ⟨o', z⟩ := J.base.there a o q (by rw [ex0]; exact fun z => nomatch z)
      have w := nb a o' z (by rw [hs]; exact nfr)
      rw [noB] at w
      cases w
  have apart : ∀ p ∈ X.pn ++ pins, p.1 ≠ a := fun p hp z => by
    obtain ⟨p1, p2, p3, p4, _⟩ := J.pin p hp
    have nst : p.1 ∉ frs X.stack := by rw [z, hs]; exact nfr
    have w := nb p.1 p.2 p1 nst
    rw [z, noB] at w
    cases w
  have SuF := J3.suite heF hdF na notLoc notOut
  have tyF : PySem.W.Looks (model X.prog X.w) h3 (typeOf (.ref a)) cls := fun A Q E s k q => wpAny_typeOf_ref (k _ _ heF) (by rw [hzF.1]; exact q)
  have test : ∀ {x : Str} {c : Value} {np : Pos}, Names X x c → ∀ {Q : Value → Shared → Prop} {E : Value → Shared → Prop}, Q c { s' with heap := h3 } → wpAny (model X.prog X.w) (X.A.mark (some (.ref a))) (eval (.Name x np) X.env) Q E { s' with heap := h3 } := fun {x c np} hc {Q E} q => by
    obtain ⟨hg, dbgF, hm | ⟨hm, hv, nnF⟩⟩ := hc
    · exact ld_glob (X := X.suite a ((a, oeF) :: (X.pn ++ pins))) SuF hg hm q dbgF
    · exact ld_blt (X := X.suite a ((a, oeF) :: (X.pn ++ pins))) SuF hg hm hv q nnF dbgF
  have into : ∀ {C : Addr}, cls = .ref C → ∀ {h4 : Heap}, HandSPX.FlyingZ B (X.env :: X.outer) a (Zc cls d) h4 → h3.UpToSlots h4 → Inv (X.suite a (X.pn ++ pins)) [] σ (upd H a (.ext (ErO C a d))) { s' with heap := h4 } := fun {C} e h4 flyG upG => by
    obtain ⟨oeG, vsG, heG, hzG, hdG⟩ := flyG.there
    have J4 : Inv X pins σ H { s' with heap := h4 } := J.landed nb flyG.1 (up.trans upG) os ag
    exact intoSuite (track J4 heG (by rw [e] at hzG; exact hzG) hdG na notLoc late apart) a
  induction hk with
  | nil =>
    intro w
    refine wpAny_handleBy_nil ?_
    obtain ⟨_, _, _, oeX, vsX, T, oT, tsX, heX, hzX, hdX, h1X, hrX⟩ := id flyF
    unfold PySem.passOn
    refine wpAny_bind (wpAny_field heX hdX h1X ?_)
    rw [if_neg (show ¬ (Value.ref T == Value.none) = true from by simp)]
    have goOn : wpAny (model X.prog X.w) X.A (setFlight (.ref a) X.env.frame) (fun _ s4 => wpAny (model X.prog X.w) X.A (throw (.ref a) : Sem Flow) (SP X pins D) X.xe s4) X.xe { s' with heap := h3 } := by
      rw [hf]
      refine HandSPX.setFlight_upZ flyF fun h4 heldG upG => wpAny_throw (tk _ _ ?_)
      exact ⟨a, B, sI, pins, σ, H, cls, d, rfl, J, nb, up.trans upG, .inr (.inr (by rw [hs]; exact heldG)), na, os, ag, w⟩
    first
      | exact wpAny_bind goOn
      | exact wpAny_bind (wpAny_pure <| wpAny_bind goOn)
  | @nm x n k i b0 suite np pos hds ks hc hi hn hln hsu _ ih =>
    rintro ⟨b, oneF, hyes, hno⟩
    have locF : Loc X.env.scope n := .inl hln
    refine wpAny_handleBy_cons (codeAny_handlers_test ?_) (fun qz => nomatch qz)
    have mtF := PySem.W.exm_one (M := model X.prog X.w) (J3.kIn) tyF oneF
    refine test hc (mtF.here ?_)
    cases b with
    | false => exact ih (hno rfl)
    | true =>
      obtain ⟨C, ec, q⟩ := hyes rfl
      have q' := q a na
      rw [hi] at q'
      refine codeAny_handlers_suite_as (HandSPX.lands_againZ flyF fun h4 flyG upG => ?_)
      refine store_ok (X := X.suite a (X.pn ++ pins)) (v := .ref a) (into ec flyG upG) hN hn locF rfl (fun s5 S5 => ?_) (.inr hln)
      refine wpAny_mono ((hsu a C d (X.pn ++ pins)).run [] s5 _ _ _ S5 q') (fun f s6 hsp => ?_) (fun _ _ z => False.elim z)
      have end_ : ∀ {σ6 : L2.St} {H6 : Hp} {Q : Shared → Prop}, Inv (X.suite a (X.pn ++ pins)) [] σ6 H6 s6 → (∀ s7, Inv X pins (σ6.set i none) H6 s7 → Q s7) →
          wpAny (model X.prog X.w) X.A (do bindName X.env n .none; unbindBehindTheSuite X.env n pos) (fun _ s7 => Q s7) X.xe s6 := fun {σ6 H6 Q} S6 hq => gone_ok (outofSuite S6 ok) hN hn hln hq
      cases f with
      | next => obtain ⟨σ6, H6, S6, q6⟩ := hsp; exact end_ S6 fun s7 J7 => ⟨_, _, J7, q6⟩
      | brk => obtain ⟨σ6, H6, S6, q6⟩ := hsp; exact end_ S6 fun s7 J7 => ⟨_, _, J7, q6⟩
      | cont => obtain ⟨σ6, H6, S6, q6⟩ := hsp; exact end_ S6 fun s7 J7 => ⟨_, _, J7, q6⟩
      | ret u => obtain ⟨v6, σ6, H6, S6, r6, q6⟩ := hsp; exact end_ S6 fun s7 J7 => ⟨_, _, _, J7, r6, q6⟩
  | @un x k b0 suite np pos hds ks hc hi hsu _ ih =>
    rintro ⟨b, oneF, hyes, hno⟩
    refine wpAny_handleBy_cons (codeAny_handlers_test ?_) (fun qz => nomatch qz)
    have mtF := PySem.W.exm_one (M := model X.prog X.w) (J3.kIn) tyF oneF
    refine test hc (mtF.here ?_)
    cases b with
    | false => exact ih (hno rfl)
    | true =>
      obtain ⟨C, ec, q⟩ := hyes rfl
      have q' := q a na
      rw [hi] at q'
      refine codeAny_handlers_suite (HandSPX.lands_againZ flyF fun h4 flyG upG => ?_)
      exact wpAny_mono ((hsu a C d (X.pn ++ pins)).run [] _ _ _ _ (into ec flyG upG) q') (fun f s6 hsp => SP_out ok hsp) (fun _ _ z => False.elim z)
theorem ps_tryC {body : List Stmt} {h0 : ExceptHandler} {hds : List ExceptHandler} {l : List Clause} {pos : Pos} {tb : WX → TS} {Wout : WX} (stk : X.stack = X.env :: X.outer) (fr : X.env.frame = some X.env.locals) (ex0 : X.ex = []) (nd : X.N.Nodup) (tk : Takes X Wout)
    (hb : ∀ (W : WX) (pn : List (Addr × Obj)) (xe : Value → Shared → Prop), Takes (X.tr pn xe) W → PassesOwn (model X.prog X.w) X.A X.env xe → PSs (X.tr pn xe) body (tb W)) (hh : ClOk X (h0 :: hds) l) :
    PS X (.Try body (h0 :: hds) [] [] pos) fun D σ H => tb (wCl X.K Wout D l) D σ H := by
  refine ⟨fun pins s σ H D I hyp => ?_⟩
  have ok := I.ok
  have hfr : X.A.frames = some (X.env :: X.outer) := by rw [ok.frames, stk]
  refine wpAny_Try_except ?_
  refine wpAny_mono ((hb (wCl X.K Wout D l) (X.pn ++ pins) (fun e s₁ => wpAny (model X.prog X.w) X.A (noteFrame e X.env) (fun _ s₂ => wpAny (model X.prog X.w) X.A (setFlight e none) (fun _ s₃ =>
    wpAny (model X.prog X.w) X.A (handleBy e X.env (h0 :: hds)) (SP X pins D) X.xe s₃) X.xe s₂) X.xe s₁) (fun u s' xx => ?_) PassesOwn.looking).run [] s σ H D (I.toTry _) hyp) (fun f s1 hsp => ?_) (fun e s1 he => he)
  · obtain ⟨a, B, sI, pins', σ', H', cls, d, rfl, Jt, nb, up, skyF, na, os, ag, w⟩ := xx
    have J : Inv X pins σ' H' sI := Jt.ofTry ok
    have skyF' : Sky B (X.env :: X.outer) a (Zc cls d) X.env.locals s'.heap := by rw [← stk]; exact skyF
    show wpAny (model X.prog X.w) X.A (noteFrame (Value.ref a) X.env) _ _ _
    refine Sky.land Zc.steady hfr fr skyF' fun h3 flyF up3 => ?_
    exact clauses nd stk fr ex0 tk hh J nb (up.trans up3) flyF na os ag w
  · cases f with
    | next =>
      obtain ⟨σ', H', Jt, q⟩ := hsp
      exact wpAny_execs_nil ⟨σ', H', Jt.ofTry ok, q⟩
    | brk =>
      obtain ⟨σ', H', Jt, q⟩ := hsp
      exact ⟨_, _, Jt.ofTry ok, q⟩
    | cont =>
      obtain ⟨σ', H', Jt, q⟩ := hsp
      exact ⟨_, _, Jt.ofTry ok, q⟩
    | ret u =>
      obtain ⟨_, _, _, Jt, r, q⟩ := hsp
      exact ⟨_, _, _, Jt.ofTry ok, r, q⟩
end
end E3

namespace E3
open PySem PySem.Spec PyProof.Rows L2
def sRaise (e : Exn) : SF := fun σ => .exc e σ
section
variable {X : Cx} {E : WX} {x m : Str} {j : Nat} {p p2 pos pos' : Pos} {C : Addr} {bmB : List Value} {B newId initId : String}
theorem ds_raise (F : ExcBaseFacts B newId initId bmB) (q : PySem.W.excIn X.K C bmB newId = true) (gC : X.mg x = some (.ref C)) (kC : PySem.W.keepIn X.K (.ref C) = true) (r : Raises X (.ref C)) (hg : Gl X x) (hc : X.calm = true) (tk : Takes X E)
    (hdb : (x == ("__debug__" : Str)) = false := by decide) : DS1 X E (.Raise (some (.Call (.Name x p) [.Constant (.str m) j p2] [] pos)) none pos') (sRaise ⟨x, none⟩) :=
  ⟨_, ps_raise hc tk (pmk_own F q gC kC r hg hdb), fun R0 H0 σ τ R H Dn I z => z (.ref C) none R H τ I ⟨⟨gC, rfl⟩, fun _ w => nomatch w⟩⟩
def TSF (X : Cx) (E : WX) (g : SF) : TS := fun Dn τ H => ∃ R0 H0 σ R, RO X.K R0 H0 R H σ τ ∧ SPost X E R0 H0 Dn (g σ)
theorem DSs.tsf {X : Cx} {E : WX} {st : List Stmt} {g : SF} (h : DSs X E st g) : PSs X st (TSF X E g) := by
  obtain ⟨t, h1, h2⟩ := h
  exact ⟨fun pins s σ H D I z => by
    obtain ⟨R0, H0, σ', R, J, k⟩ := z
    exact h1.run pins s σ H D I (h2 R0 H0 σ' σ R H D J k)⟩
end

section
variable {K : PySem.W.Frag} {R0 H0 R H : Hp} {σ : SS} {τ : L2.St}
theorem RO.gone (I : RO K R0 H0 R H σ τ) (i : Nat) : RO K R0 H0 R H (σ.set i none) (τ.set i none) where
  ext := I.ext
  sh := fun j e h => by
    by_cases hj : i = j
    · subst hj
      by_cases hl : i < σ.length
      · rw [List.getElem?_set_self hl] at h
        cases h
      · rw [List.getElem?_eq_none (by rw [List.length_set]; omega)] at h
        cases h
    · rw [List.getElem?_set_ne hj] at h ⊢
      exact I.sh j e h
  ow := fun j e h => by
    by_cases hj : i = j
    · subst hj
      by_cases hl : i < σ.length
      · rw [List.getElem?_set_self hl] at h
        cases h
      · rw [List.getElem?_eq_none (by rw [List.length_set]; omega)] at h
        cases h
    · rw [List.getElem?_set_ne hj] at h ⊢
      exact I.ow j e h
  ne := fun j k d' e a h1 h2 h3 h4 => by
    have no : ∀ m (x : D), (σ.set i none)[m]? = some (some (Slot.ow x)) → i ≠ m := fun m x h hm => by
      subst hm
      by_cases hl : i < σ.length
      · rw [List.getElem?_set_self hl] at h
        cases h
      · rw [List.getElem?_eq_none (by rw [List.length_set]; omega)] at h
        cases h
    have n1 := no _ _ h1
    have n2 := no _ _ h2
    rw [List.getElem?_set_ne n1] at h1 h3
    rw [List.getElem?_set_ne n2] at h2 h4
    exact I.ne j k d' e a h1 h2 h3 h4
  len := by rw [List.length_set, List.length_set]; exact I.len
theorem RO.addX (I : RO K R0 H0 R H σ τ) {b : Addr} {fs : List (Str × V)} (hb : H b = some (.xd fs)) (h0 : H0 b = none) : ∃ R', Same R R' ∧ R' b = some (.xd fs) ∧ RO K R0 H0 R' H σ τ := by
  cases q : R b with
  | some o =>
    have e := I.ext.sub _ _ q
    rw [hb] at e
    cases e
    exact ⟨R, Same.refl _, q, I⟩
  | none =>
    have s1 : Same R (upd R b (.xd fs)) := same_new q
    refine ⟨_, s1, upd_same, ⟨I.ext.rr.trans s1, fun c o e => ?_, I.ext.hh, fun c o e => ?_⟩, fun i d e => ?_, fun i d e => ?_, I.ne, I.len⟩
    · by_cases hc : c = b
      · subst hc
        rw [upd_same] at e
        cases e
        exact hb
      · rw [upd_ne hc] at e
        exact I.ext.sub _ _ e
    · by_cases hc : c = b
      · subst hc
        exact .inr (.inl h0)
      · rw [upd_ne hc] at e
        exact I.ext.new _ _ e
    · obtain ⟨v, z1, z2⟩ := I.sh i d e
      exact ⟨v, z1, z2.mono s1⟩
    · obtain ⟨a, z1, z2, z3, z4⟩ := I.ow i d e
      refine ⟨a, z1, ?_, z3, z4.mono s1 (Same.refl _)⟩
      have ne : a ≠ b := fun z => by
        subst z
        cases d with
        | list ds =>
          obtain ⟨vs, w, _⟩ := z4
          rw [hb] at w
          cases w
        | dict ds =>
          obtain ⟨vs, w, _⟩ := z4
          rw [hb] at w
          cases w
        | _ => exact z4.elim
      rw [upd_ne ne]
      exact z2
end

def fldD : Option (Str × D) → List (D × D)
  | none => []
  | some (f, d) => [(.str f, d)]
def errD (x : Exn) : D := .dict ((.none, .str x.cls) :: fldD x.fld)
def fldOk : Option (Str × D) → Bool
  | none => true
  | some (_, .int _) => true
  | _ => false
structure ClS where
  cat : Str → Option Bool
  i : Option Nat
  g : SF
def putSl : Option Nat → Option Slot → SS → SS
  | none, _, σ => σ
  | some i, v, σ => σ.set i v
def goneS (i : Option Nat) : SR → SR
  | .ok .nx σ => .ok .nx (putSl i none σ)
  | .ok .bk σ => .ok .bk (putSl i none σ)
  | .ok .ct σ => .ok .ct (putSl i none σ)
  | .ok (.rt d) σ => .ok (.rt d) σ
  | _ => .stuck
def runCl (x : Exn) (σ : SS) : List ClS → SR
  | [] => .exc x σ
  | k :: r => match k.cat x.cls with
    | some true => if fldOk x.fld then goneS k.i (k.g (putSl k.i (some (.sh (errD x))) σ)) else .stuck
    | some false => runCl x σ r
    | none => .stuck
def sTry (l : List ClS) (g : SF) : SF := fun σ => match g σ with
  | .exc x σ' => runCl x σ' l
  | r => r
def CatOk (X : Cx) (c : Value) (cat : Str → Option Bool) : Prop := ∀ y b, cat y = some b → ∃ C, PySem.W.nsIn X.K mainGlobals y = some (some (.ref C)) ∧ X.mg y = some (.ref C) ∧ PySem.W.exmOne X.K (.ref C) c = some b
inductive ClD (X : Cx) (E : WX) : List ExceptHandler → List ClS → Prop
  | nil : ClD X E [] []
  | nm {x n : Str} {c : Value} {cat : Str → Option Bool} {g : SF} (i0 : Nat) {b0 : Stmt} {suite : List Stmt} {np pos : Pos} {hds : List ExceptHandler} {l : List ClS} : Names X x c → CatOk X c cat → X.N[i0]? = some n → X.env.kindOf n = some .local →
      (∀ a pn, DSs (X.suite a pn) E (b0 :: suite) g) → ClD X E hds l → ClD X E (.ExceptHandler (some (.Name x np)) (some n) (b0 :: suite) pos :: hds) (⟨cat, some i0, g⟩ :: l)
  | un {x : Str} {c : Value} {cat : Str → Option Bool} {g : SF} {b0 : Stmt} {suite : List Stmt} {np pos : Pos} {hds : List ExceptHandler} {l : List ClS} : Names X x c → CatOk X c cat →
      (∀ a pn, DSs (X.suite a pn) E (b0 :: suite) g) → ClD X E hds l → ClD X E (.ExceptHandler (some (.Name x np)) none (b0 :: suite) pos :: hds) (⟨cat, none, g⟩ :: l)
section
variable {X : Cx} {E : WX} {R0 H0 R H : Hp} {σ : SS} {τ : L2.St}
theorem SPost_gone {i : Option Nat} {D : Ends} {r : SR} (h : SPost X E R0 H0 D (goneS i r)) : SPost X E R0 H0 (goneE i D) r := by
  cases r with
  | exc x σ => exact h.elim
  | stuck => exact h.elim
  | ok o σ =>
    have fin : ∀ {R H : Hp} {τ : L2.St}, RO X.K R0 H0 R H σ τ → RO X.K R0 H0 R H (putSl i none σ) (putE i none τ) := fun {R H τ} I => by
      cases i with
      | none => exact I
      | some i => exact I.gone i
    cases o with
    | nx => exact fun R H τ I => h R H _ (fin I)
    | bk => exact fun R H τ I => h R H _ (fin I)
    | ct => exact fun R H τ I => h R H _ (fin I)
    | rt d => exact h
theorem caught {x : Exn} {C : Addr} {dx : Option Addr} {i : Option Nat} (I : RO X.K R0 H0 R H σ τ) (e : ExL X.K X.mg H0 x (.ref C) dx H) (ns : PySem.W.nsIn X.K mainGlobals x.cls = some (some (.ref C))) (hf : fldOk x.fld = true) (a : Addr) (na : H a = none) :
    ∃ R', RO X.K R0 H0 R' (upd H a (.ext (ErO C a dx))) (putSl i (some (.sh (errD x))) σ) (putE i (some (.ref a)) τ) := by
  have I1 : RO X.K R0 H0 (upd R a (.ext (ErO C a dx))) (upd H a (.ext (ErO C a dx))) σ τ := I.step (Ext.alloc I.ext.sub na)
  have put : ∀ {R' : Hp}, RO X.K R0 H0 R' (upd H a (.ext (ErO C a dx))) σ τ → Rp X.K R' (.ref a) (errD x) → RO X.K R0 H0 R' (upd H a (.ext (ErO C a dx))) (putSl i (some (.sh (errD x))) σ) (putE i (some (.ref a)) τ) := fun {R'} J r => by
    cases i with
    | none => exact J
    | some i => exact J.put r
  obtain ⟨xc, xf⟩ := x
  cases xf with
  | none =>
    have ed : dx = none := e.er.2
    subst ed
    exact ⟨_, put I1 (.ob (.er ns upd_same) .nil)⟩
  | some p =>
    obtain ⟨f, d⟩ := p
    obtain ⟨b, v, ed, hb, rv⟩ := e.er.2
    subst ed
    cases d with
    | int n =>
      cases rv
      have nb : b ≠ a := fun z => by rw [z, na] at hb; cases hb
      obtain ⟨R', s1, h1, J⟩ := I1.addX (b := b) (fs := [(f, .int n)]) (by rw [upd_ne nb]; exact hb) (e.late b rfl)
      exact ⟨R', put J (.ob (.erf ns (s1 _ _ upd_same) h1) (.cons (.int n) .nil))⟩
    | _ => cases hf
theorem ClD.ok {hds : List ExceptHandler} {l : List ClS} (h : ClD X E hds l) : ∃ ks, ClOk X hds ks ∧
    ∀ {R0 H0 R H : Hp} {σ : SS} {τ : L2.St} {D : Ends} {x : Exn} {c : Value} {dx : Option Addr}, RO X.K R0 H0 R H σ τ → ExL X.K X.mg H0 x c dx H → SPost X E R0 H0 D (runCl x σ l) → wCl X.K E D ks c dx τ H := by
  have step : ∀ {cat : Str → Option Bool} {i : Option Nat} {g : SF} {cv : Value} {l : List ClS} {ks : List Clause}, CatOk X cv cat →
      (∀ {R0 H0 R H : Hp} {σ : SS} {τ : L2.St} {D : Ends} {x : Exn} {c : Value} {dx : Option Addr}, RO X.K R0 H0 R H σ τ → ExL X.K X.mg H0 x c dx H → SPost X E R0 H0 D (runCl x σ l) → wCl X.K E D ks c dx τ H) →
      ∀ {R0 H0 R H : Hp} {σ : SS} {τ : L2.St} {D : Ends} {x : Exn} {c : Value} {dx : Option Addr}, RO X.K R0 H0 R H σ τ → ExL X.K X.mg H0 x c dx H → SPost X E R0 H0 D (runCl x σ (⟨cat, i, g⟩ :: l)) →
        wCl X.K E D (⟨cv, i, fun _ _ _ => TSF X E g⟩ :: ks) c dx τ H := by
    intro cat i g cv l ks ca ih R0 H0 R H σ τ D x c dx I e q
    simp only [runCl] at q
    cases k : cat x.cls with
    | none => rw [k] at q; exact q.elim
    | some b =>
      obtain ⟨C, n1, n2, n3⟩ := ca _ _ k
      have ec : c = .ref C := by
        have := e.er.1
        rw [n2] at this
        exact (Option.some.inj this).symm
      subst ec
      rw [k] at q
      refine ⟨b, n3, fun hb => ⟨C, rfl, fun a na => ?_⟩, fun hb => ?_⟩
      · subst hb
        have q' : SPost X E R0 H0 D (if fldOk x.fld then goneS i (g (putSl i (some (.sh (errD x))) σ)) else .stuck) := q
        by_cases hf : fldOk x.fld = true
        · rw [if_pos hf] at q'
          obtain ⟨R', J⟩ := caught (i := i) I e n1 hf a na
          exact ⟨R0, H0, _, R', J, SPost_gone q'⟩
        · rw [if_neg hf] at q'; exact q'.elim
      · subst hb
        exact ih I e q
  induction h with
  | nil => exact ⟨[], .nil, fun I e q => q _ _ _ _ _ I e⟩
  | nm i0 hc ca hn hl hsu _ ih =>
    obtain ⟨ks, k1, k2⟩ := ih
    refine ⟨_, .nm (k := ⟨_, some i0, fun _ _ _ => TSF X E _⟩) hc rfl hn hl (fun a C d pn => (hsu a pn).tsf) k1, ?_⟩
    exact step ca k2
  | un hc ca hsu _ ih =>
    obtain ⟨ks, k1, k2⟩ := ih
    refine ⟨_, .un (k := ⟨_, none, fun _ _ _ => TSF X E _⟩) hc rfl (fun a C d pn => (hsu a pn).tsf) k1, ?_⟩
    exact step ca k2
theorem ds_try {body : List Stmt} {h0 : ExceptHandler} {hds : List ExceptHandler} {l : List ClS} {pos : Pos} {g : SF} (stk : X.stack = X.env :: X.outer) (fr : X.env.frame = some X.env.locals) (ex0 : X.ex = []) (nd : X.N.Nodup) (tk : Takes X E)
    (hb : ∀ (W : WX) (pn : List (Addr × Obj)) (xe : Value → Shared → Prop), Takes (X.tr pn xe) W → PassesOwn (model X.prog X.w) X.A X.env xe → DSs (X.tr pn xe) W body g) (hh : ClD X E (h0 :: hds) l) :
    DS1 X E (.Try body (h0 :: hds) [] [] pos) (sTry l g) := by
  obtain ⟨ks, k1, k2⟩ := hh.ok
  refine ⟨_, ps_tryC (tb := fun W => TSF X W g) stk fr ex0 nd tk (fun W pn xe t p => (hb W pn xe t p).tsf) k1, fun R0 H0 σ τ R H Dn I z => ?_⟩
  refine ⟨R0, H0, σ, R, I, ?_⟩
  unfold sTry at z
  cases e : g σ with
  | ok o σ' =>
    rw [e] at z
    cases o <;> exact z
  | stuck => rw [e] at z; exact z
  | exc y σ' =>
    rw [e] at z
    intro cv dx R1 H1 τ1 J ex
    exact k2 J ex z
end
end E3

namespace E3
open PySem PySem.Spec PyProof.Rows L2
def TyO (K : PySem.W.Frag) (H : Hp) (v : V) (t : Value) : Prop := TyX K H v t ∨ (∃ a C, v = .ref a ∧ t = .ref C ∧ H a = some (.ext (ErO C a none)) ∧ ExcC K C) ∨ ∃ a o kvs, v = .ref a ∧ t = .type "dict" ∧ H a = some (.frz o (.dT kvs))
section
variable {X : Cx} {E : WX} {Ex : XK} {pins : List (Addr × Obj)} {σ0 : L2.St} {H : Hp} {s : Shared}
theorem kit_ofO {x : V} {u t : Value} (I : Inv X pins σ0 H s) (rx : RelV x u) (ty : TyO X.K H x t) : ∃ P : Heap → Prop, PySem.W.KitX X.K u t P ∧ P s.heap ∧ u ≠ .builtin "__main__.__loader__#opaque" := by
  rcases ty with ty | ⟨a, C, rfl, rfl, hH, F⟩ | ⟨a, ob, kvs, rfl, rfl, hH⟩
  · exact kit_of I rx ty
  · have eu : u = Value.ref a := rx
    subst eu
    have ok : ObjOk X.prog X.w H s.heap a (.ext (ErO C a none)) := I.hok a _ hH
    obtain ⟨⟨⟨oc, od, oda, osl⟩, vs, hget, ⟨z1, z2⟩, z3⟩, _⟩ := ok
    dsimp only at z1 z2 z3
    subst z1 z2 z3
    exact ⟨_, PySem.W.handS_kitx_exc F.hg F.hk F.hs F.hd F.ha F.hn F.ht F.hm, ⟨hget, rfl, rfl, trivial⟩, fun z => nomatch z⟩
  · have eu : u = Value.ref a := rx
    subst eu
    have ok : ObjOk X.prog X.w H s.heap a (.frz ob (.dT kvs)) := I.hok a _ hH
    obtain ⟨_, _, _, _, _, oo, _, _, h1, h2, _⟩ := ok
    exact ⟨_, PySem.W.kitx_dict, ⟨oo, h1, h2.1⟩, fun z => nomatch z⟩
def rIsO (K : PySem.W.Frag) : List V → Hp → VK → Prop := fun xs H Q => ∃ (x c : V) (t u : Value) (b : Bool), xs = [x, c] ∧ ClsV c u ∧ TyO K H x t ∧ PySem.W.kitOne K t u = some b ∧ Q (.bl b) H
def rIsOT (K : PySem.W.Frag) : List V → Hp → VK → Prop := fun xs H Q => ∃ (x : V) (tp : Addr) (cs : List V) (t : Value) (us : List Value) (b : Bool), xs = [x, .ref tp] ∧ H tp = some (.tup cs) ∧ Paired ClsV cs us ∧ TyO K H x t ∧ PySem.W.kitAny K t us = some b ∧ Q (.bl b) H
theorem call_isO : CallR X (.builtin "isinstance") (rIsO X.K) := by
  intro pn st τ G xs us Q I r q
  obtain ⟨x, c, t, u, b, rfl, k, ty, e, q⟩ := q
  obtain ⟨w1, w2, rfl, r1, r2⟩ := vals2 r
  have e2 := k.eq r2
  subst e2
  obtain ⟨P, Z, p, nx⟩ := kit_ofO I r1 ty
  exact PySem.W.kia_one Z I.kIn p e nx fun n => ⟨.bl b, G, I.tok n, rfl, q⟩
theorem call_isOT : CallR X (.builtin "isinstance") (rIsOT X.K) := by
  intro pn st τ G xs us Q I r q
  obtain ⟨x, tp, cs, t, ws, b, rfl, hT, k, ty, e, q⟩ := q
  obtain ⟨w1, w2, rfl, r1, r2⟩ := vals2 r
  have ew : w2 = Value.ref tp := r2
  subst ew
  obtain ⟨P, Z, p, nx⟩ := kit_ofO I r1 ty
  have ok : ObjOk X.prog X.w G st.heap tp (.tup cs) := I.hok tp _ hT
  obtain ⟨_, its, rv, ⟨oc, od, dt, sl⟩, h1, h2, n, h3⟩ := ok
  have ei := ClsV.all k rv
  subst ei
  dsimp only at h2 h3
  subst h2 h3
  exact PySem.W.kia_tup Z I.kIn p h1 e nx fun n => ⟨.bl b, G, I.tok n, rfl, q⟩
def isaD (rel : Str → Option Bool) : D → Res D
  | .none => .ok (.bool false)
  | .dict [(.none, .str y)] => match rel y with
    | some b => .ok (.bool b)
    | none => .stuck
  | _ => .stuck
structure IsaOk (K : PySem.W.Frag) (u : Value) (rel : Str → Option Bool) : Prop where
  non : PySem.W.kitOne K (.type "NoneType") u = some false
  er : ∀ y b, rel y = some b → ∃ C, PySem.W.nsIn K mainGlobals y = some (some (.ref C)) ∧ ExcC K C ∧ PySem.W.kitOne K (.ref C) u = some b
structure IsaTOk (K : PySem.W.Frag) (us : List Value) (rel : Str → Option Bool) : Prop where
  non : PySem.W.kitAny K (.type "NoneType") us = some false
  er : ∀ y b, rel y = some b → ∃ C, PySem.W.nsIn K mainGlobals y = some (some (.ref C)) ∧ ExcC K C ∧ PySem.W.kitAny K (.ref C) us = some b
theorem isa_run {kit : Value → Option Bool} {rel : Str → Option Bool} {v : V} {d : D} {R H : Hp} {Q : VK} (non : kit (.type "NoneType") = some false) (er : ∀ y b, rel y = some b → ∃ C, PySem.W.nsIn X.K mainGlobals y = some (some (.ref C)) ∧ ExcC X.K C ∧ kit (.ref C) = some b)
    (r : Rp X.K R v d) (s : Same R H) (h : Post X.K X.mg Ex (rV X.K) R H Q (isaD rel d)) : ∃ t b, TyO X.K H v t ∧ kit t = some b ∧ Q (.bl b) H := by
  cases r with
  | non => exact ⟨_, false, .inl (.base .non), non, Post.now s (Rp.bl false) h⟩
  | @ob a x k vs kvs o f =>
    cases o with
    | ins m1 m2 => exact h.elim
    | erf m1 m2 m3 => cases f; exact h.elim
    | @er C' m1 m2 =>
      cases f
      simp only [isaD] at h
      cases k : rel x with
      | none => rw [k] at h; exact h.elim
      | some b =>
        rw [k] at h
        obtain ⟨C, n1, n2, n3⟩ := er x b k
        rw [n1] at m1
        cases m1
        exact ⟨_, b, .inr (.inl ⟨a, _, rfl, rfl, s _ _ m2, n2⟩), n3, Post.now s (Rp.bl b) h⟩
  | dT g1 g2 => cases g2 <;> exact h.elim
  | _ => exact h.elim
variable {e : Expr} {f : DS → Res D} {pos p p2 : Pos} {x : Str}
theorem pe_cls {c : V} {u : Value} (n : Names X x u) (k : ClsV c u) : PE X (.Name x p) (tC c) := by
  obtain ⟨g, db, hm | ⟨hm, hv, hn⟩⟩ := n
  · cases k with
    | ty n => exact pe_glob g hm (show RelV (.ty n) (.type n) from rfl) db
    | own C => exact pe_glob g hm (show RelV (.ref C) (.ref C) from rfl) db
  · cases k with
    | ty n => exact pe_bltn g hm hv (show RelV (.ty n) (.type n) from rfl) hn db
    | own C => exact pe_bltn g hm hv (show RelV (.ref C) (.ref C) from rfl) hn db
theorem de_isa {c : V} {u : Value} {rel : Str → Option Bool} (F : IsaOk X.K u rel) (n : Names X x u) (k : ClsV c u) (hc : X.mg "isinstance" = none) (hg : Gl X "isinstance") (he : DE X E e f)
    (h1 : starEach [e, .Name x p2] X.env = (false, eval e X.env) :: starEach [.Name x p2] X.env := by rfl) (h2 : starEach [.Name x p2] X.env = (false, eval (.Name x p2) X.env) :: starEach [] X.env := by rfl)
    (hpl : (backTo pos (starEach [.Name x p2] X.env)).any (·.1) = false := by rfl) : DE X E (.Call (.Name "isinstance" p) [e, .Name x p2] [] pos) (e1 (isaD rel) f) := by
  obtain ⟨t, a1, a2⟩ := he
  refine ⟨_, pe_callB call_isO hg hc boot_isinstance (pa_cons a1 (pa_cons (pe_cls n k) pa_nil h2) h1) (by decide) (by decide) h1 hpl, fun σ τ R H Q hs s h => a2 σ τ R H _ hs s (post_bind s h fun d v R1 H1 x1 q1 k1 => ?_)⟩
  obtain ⟨ty, b, t1, t2, t3⟩ := isa_run (kit := fun t => PySem.W.kitOne X.K t u) F.non F.er q1 x1.sub k1
  exact ⟨v, c, ty, u, b, rfl, k, t1, t2, t3⟩
inductive ClsA (X : Cx) : List Expr → List V → List Value → Prop
  | nil : ClsA X [] [] []
  | cons {x : Str} {p : Pos} {c : V} {u : Value} {es : List Expr} {cs : List V} {us : List Value} : Names X x u → ClsV c u → starEach (.Name x p :: es) X.env = (false, eval (.Name x p) X.env) :: starEach es X.env → ClsA X es cs us → ClsA X (.Name x p :: es) (c :: cs) (u :: us)
theorem ClsA.pa {es : List Expr} {cs : List V} {us : List Value} (h : ClsA X es cs us) : (∃ t : TA, PA X es t ∧ ∀ σ H (Q : List V → Hp → Prop), Q cs H → t σ H Q) ∧ Paired ClsV cs us := by
  induction h with
  | nil => exact ⟨⟨_, pa_nil, fun _ _ _ q => q⟩, .nil⟩
  | cons n k st _ ih =>
    obtain ⟨⟨t, t1, t2⟩, q⟩ := ih
    exact ⟨⟨_, pa_cons (pe_cls n k) t1 st, fun σ H Q z => t2 σ H _ z⟩, .cons k q⟩
theorem de_isaT {es : List Expr} {k1 : Nat} {cs : List V} {us : List Value} {rel : Str → Option Bool} (F : IsaTOk X.K us rel) (n : ClsA X es cs us) (hl : us.length ≤ 1000) (hc : X.mg "isinstance" = none) (hg : Gl X "isinstance") (he : DE X E e f)
    (h1 : starEach [e, .Tuple es k1 p2] X.env = (false, eval e X.env) :: starEach [.Tuple es k1 p2] X.env := by rfl) (h2 : starEach [.Tuple es k1 p2] X.env = (false, eval (.Tuple es k1 p2) X.env) :: starEach [] X.env := by rfl)
    (hpl : (backTo pos (starEach [.Tuple es k1 p2] X.env)).any (·.1) = false := by rfl) : DE X E (.Call (.Name "isinstance" p) [e, .Tuple es k1 p2] [] pos) (e1 (isaD rel) f) := by
  obtain ⟨t, a1, a2⟩ := he
  obtain ⟨⟨tc, c1, c2⟩, pr⟩ := n.pa
  refine ⟨_, pe_callB call_isOT hg hc boot_isinstance (pa_cons a1 (pa_cons (pe_tup c1) pa_nil h2) h1) (by decide) (by decide) h1 hpl, fun σ τ R H Q hs s h => a2 σ τ R H _ hs s (post_bind s h fun d v R1 H1 x1 q1 k1 => ?_)⟩
  refine c2 _ _ _ ⟨?_, fun tp htp => ?_⟩
  · rw [Paired.length pr, sizeLine_eq]; omega
  · have e2 : Ext R1 H1 R1 (upd H1 tp (.tup cs)) := Ext.allocH x1.sub htp
    obtain ⟨ty, b, t1, t2, t3⟩ := isa_run (kit := fun t => PySem.W.kitAny X.K t us) F.non F.er q1 e2.sub (k1.step e2)
    exact ⟨v, tp, cs, ty, us, b, rfl, upd_same, pr, t1, t2, t3⟩
end
end E3

namespace E3
open PySem PySem.Spec PyProof.Rows L2
def EMRO : List Value := [.type "ValueError", .type "Exception", .type "BaseException", .type "object"]
theorem look_nil {P : Str → Bool → Prop} : ∀ y b, (([] : List (Str × Bool)).lookup y) = some b → P y b := fun _ _ h => nomatch h
theorem look_cons {P : Str → Bool → Prop} {x : Str} {c : Bool} {l : List (Str × Bool)} (h : P x c) (r : ∀ y b, l.lookup y = some b → P y b) : ∀ y b, ((x, c) :: l).lookup y = some b → P y b := fun y b e => by
  rw [List.lookup_cons] at e
  by_cases z : (y == x) = true
  · have z' : y = x := by simpa using z
    rw [z] at e
    cases e
    rw [z']
    exact h
  · have z' : (y == x) = false := by cases q : (y == x) <;> simp_all
    rw [z'] at e
    exact r y b e
section
variable {K : PySem.W.Frag} {C D : Addr} {b : Bool}
theorem kit_own (hd : PySem.W.hasDictIn K C = true) (ty : PySem.W.typeIn K (.ref C) = some (.type "type")) {t : Value} (su : PySem.W.subIn K t (.ref C) = some b) : PySem.W.kitCls K t (.ref C) = some b := by
  have h := PySem.W.any_some hd
  obtain ⟨cd, hc, _⟩ := h
  have e : ((PySem.W.clsIn K C).isSome && PySem.W.typeIn K (.ref C) == some (.type "type")) = true := by rw [hc, ty] <;> rfl
  show (if ((PySem.W.clsIn K C).isSome && PySem.W.typeIn K (.ref C) == some (.type "type")) = true then PySem.W.subIn K t (.ref C) else none) = some b
  rw [if_pos e]
  exact su
theorem kit_ref (hd : PySem.W.hasDictIn K C = true) (ty : PySem.W.typeIn K (.ref C) = some (.type "type")) (su : PySem.W.subIn K (.ref D) (.ref C) = some b) (ne : b = false → (Value.ref D == Value.ref C) = false) : PySem.W.kitOne K (.ref D) (.ref C) = some b := by
  unfold PySem.W.kitOne
  cases b with
  | false =>
    rw [ne rfl]
    exact kit_own hd ty su
  | true =>
    split
    · rfl
    · exact kit_own hd ty su
theorem kit_refN (hd : PySem.W.hasDictIn K C = true) (ty : PySem.W.typeIn K (.ref C) = some (.type "type")) (su : PySem.W.subIn K (.type "NoneType") (.ref C) = some b) : PySem.W.kitOne K (.type "NoneType") (.ref C) = some b := by
  unfold PySem.W.kitOne
  rw [show (Value.type "NoneType" == Value.ref C) = false from rfl]
  exact kit_own hd ty su
theorem kit_typ {T : String} (m : PySem.W.kitMeta T = true) (su : PySem.W.subIn K (.ref D) (.type T) = some b) : PySem.W.kitOne K (.ref D) (.type T) = some b := by
  unfold PySem.W.kitOne
  rw [show (Value.ref D == Value.type T) = false from rfl]
  show (if PySem.W.kitMeta T = true then PySem.W.subIn K (.ref D) (.type T) else none) = some b
  rw [if_pos m]
  exact su
end
def isiTD (Ts : List String) : D → Res D
  | .dict kvs => if obK kvs then .stuck else .ok (.bool (Ts.any fun T => isiT T (.dict kvs)))
  | d => .ok (.bool (Ts.any fun T => isiT T d))
def TOks (Ts : List String) : Prop := ∀ T ∈ Ts, TOk T
theorem toks_nil : TOks [] := fun _ h => nomatch h
theorem toks_cons {T : String} {Ts : List String} (h : TOk T) (r : TOks Ts) : TOks (T :: Ts) := fun S hS => by
  rcases List.mem_cons.mp hS with z | z
  · rw [z]; exact h
  · exact r S z
theorem kit_tys {K : PySem.W.Frag} (d : D) : ∀ {Ts : List String}, TOks Ts → PySem.W.kitAny K (.type (tyN d)) (Ts.map Value.type) = some (Ts.any fun T => isiT T d)
  | [], _ => rfl
  | T :: Ts, h => by
    refine kitAny_cons (kit_ty (h T List.mem_cons_self d)) (fun z => ?_) fun z => ?_
    · rw [List.any_cons, z, Bool.false_or]
      exact kit_tys d fun S hS => h S (List.mem_cons_of_mem _ hS)
    · rw [List.any_cons, z, Bool.true_or]
section
variable {X : Cx} {E : WX} {e : Expr} {f : DS → Res D} {pos p p2 : Pos}
theorem ty_runO {v : V} {d : D} {R H : Hp} (r : Rp X.K R v d) (s : Same R H) (nd : ∀ k, d = .dict k → obK k = false) : TyO X.K H v (.type (tyN d)) := by
  by_cases h : ∃ k, d = .dict k
  · obtain ⟨k, rfl⟩ := h
    have no := nd k rfl
    cases r with
    | dT g1 g2 =>
      rcases rd_same s g1 with q | ⟨o, q⟩
      · exact .inl (.base (.dT q))
      · exact .inr (.inr ⟨_, o, _, rfl, rfl, q⟩)
    | ob g1 g2 => cases g1 <;> cases no
  · exact .inl (ty_run r s fun k z => h ⟨k, z⟩)
theorem de_isiT {es : List Expr} {k1 : Nat} {cs : List V} {Ts : List String} (F : TOks Ts) (n : ClsA X es cs (Ts.map Value.type)) (hl : (Ts.map Value.type).length ≤ 1000) (hc : X.mg "isinstance" = none) (hg : Gl X "isinstance") (he : DE X E e f)
    (h1 : starEach [e, .Tuple es k1 p2] X.env = (false, eval e X.env) :: starEach [.Tuple es k1 p2] X.env := by rfl) (h2 : starEach [.Tuple es k1 p2] X.env = (false, eval (.Tuple es k1 p2) X.env) :: starEach [] X.env := by rfl)
    (hpl : (backTo pos (starEach [.Tuple es k1 p2] X.env)).any (·.1) = false := by rfl) : DE X E (.Call (.Name "isinstance" p) [e, .Tuple es k1 p2] [] pos) (e1 (isiTD Ts) f) := by
  obtain ⟨t, a1, a2⟩ := he
  obtain ⟨⟨tc, c1, c2⟩, pr⟩ := n.pa
  refine ⟨_, pe_callB call_isOT hg hc boot_isinstance (pa_cons a1 (pa_cons (pe_tup c1) pa_nil h2) h1) (by decide) (by decide) h1 hpl, fun σ τ R H Q hs s h => a2 σ τ R H _ hs s (post_bind s h fun d v R1 H1 x1 q1 k1 => ?_)⟩
  refine c2 _ _ _ ⟨?_, fun tp htp => ?_⟩
  · rw [Paired.length pr, sizeLine_eq]; omega
  · have e2 : Ext R1 H1 R1 (upd H1 tp (.tup cs)) := Ext.allocH x1.sub htp
    have nd : ∀ k, d = .dict k → obK k = false := fun k z => by
      subst z
      cases o : obK k with
      | false => rfl
      | true => simp only [isiTD, o, if_true] at k1; exact k1.elim
    have k2 : Post X.K X.mg (xat E τ) (rV X.K) R1 H1 Q (.ok (.bool (Ts.any fun T => isiT T d))) := by
      cases d with
      | dict k => simp only [isiTD, nd k rfl, Bool.false_eq_true, if_false] at k1; exact k1
      | _ => exact k1
    exact ⟨v, tp, cs, _, _, _, rfl, upd_same, pr, ty_runO q1 e2.sub nd, kit_tys d F, Post.now e2.sub (Rp.bl _) (k2.step e2)⟩
end
end E3

namespace E3
open PySem PySem.Spec PyProof.Rows L2
section
variable {X : Cx}
def tDisp1 (tk tv : TE) : TE := fun σ H Q => ∀ p, H p = none → tPairs [(tk, tv)] σ (upd H p (.dT [])) fun ps H2 => H2 p = some (.dT []) ∧ ∃ (k : List Key) (b : Addr) (y : V), ps = [(.ref b, y)] ∧ H2 b = some (.tup (k.map kV)) ∧ Q (.ref p) (upd H2 p (.dT [(k, y)]))
theorem pe_disp1 {pos : Pos} {k v : Expr} {tk tv : TE} (hk : PE X k tk) (hv : PE X v tv) (hu : X.A.units < cLine) : PE X (.Dict [some k] [v] pos) (tDisp1 tk tv) := by
  refine ⟨fun pins s σ H Q I q => ?_⟩
  have hn := I.hok.fresh (Nat.le_refl s.heap.objs.size)
  have I1 := I.laid (a := s.heap.objs.size) (o := .dT []) (h' := s.heap.push { cls := .type "dict", data := .dict #[] }) (t' := s.toks) (fun _ _ q => Heap.get?_push_of_some _ q) (Nat.le_refl _) (dt_empty s.heap I.big)
  rw [arm_eval_Dict, zip_pairTrees [some k] [v] X.env pos rfl rfl, dictDisplay_pairs (pairTrees [some k] [v] X.env pos) (fun z => by cases z) (by show (1 : Nat) < 17; decide)]
  refine wpAny_bind (wpAny_standAt (wpAny_bind (wpAny_subDictH (knd := tupleKind (mixKind X.prog X.w)) hu (by show (1 : Nat) ≤ 15; decide) (thn ((pps_cons hk hv pps_nil).run pins _ σ _ _ I1 (q _ hn)) fun ws s2 ⟨ps, H2, I2, rel, e, kk, b, y, ep, eb, q2⟩ => ?_))))
  subst ep
  cases rel with
  | @cons _ w0 _ ws0 h1 t =>
    cases t
    obtain ⟨kv, vv⟩ := w0
    obtain ⟨b1, b2⟩ := h1
    cases (show kv = Value.ref b from b1)
    obtain ⟨z, hd, xs, rk, dd⟩ := dt_of I2.hok e
    cases rk
    refine ⟨[(kk, b, vv)], ⟨rfl, rfl, key_of I2.hok eb, True.intro⟩, dd, fun h' tk' dd' hs => wpAny_pure ⟨.ref s.heap.objs.size, upd H2 s.heap.objs.size (.dT [(kk, y)]), ?_, rfl, q2⟩⟩
    obtain ⟨o, es, ep, ho, x2, x3, x4, _, x5⟩ := dd'
    refine d_write I2 (by rw [e]; exact True.intro) hs ⟨o, ho⟩ ⟨by show (1 : Nat) ≤ sizeLine; rw [sizeLine_eq]; decide, hd, [(kk, b, vv)], .cons ⟨rfl, ?_, b2⟩ .nil, o, es, ep, ho, x2, x3, x4, x5⟩
    rw [upd_ne (ne_of eb e (fun z => nomatch z))]
    exact eb
end
def dic1D : D → D → Res D := fun k v => match keyOf k with
  | some ns => .ok (.dict [(.tuple (ns.map .int), v)])
  | none => .stuck
section
variable {X : Cx} {E : WX} {k v : Expr} {f g : DS → Res D} {pos : Pos}
theorem de_dic1 (hu : X.A.units < cLine) (hk : DE X E k f) (hv : DE X E v g) : DE X E (.Dict [some k] [v] pos) (e2 dic1D f g) := by
  obtain ⟨ta, a1, a2⟩ := hk
  obtain ⟨tb, b1, b2⟩ := hv
  refine ⟨_, pe_disp1 a1 b1 hu, fun σ τ R H Q hs s h p hp => ?_⟩
  have e0 : Ext R H R (upd H p (.dT [])) := Ext.allocH s hp
  refine a2 σ τ R _ _ hs e0.sub ?_
  have h' : Post X.K X.mg (xat E τ) (rV X.K) R H Q ((f σ).bind fun x => (g σ).bind fun y => dic1D x y) := h
  cases w1 : f σ with
  | stuck => rw [w1] at h'; exact h'
  | exc x => rw [w1] at h'; exact fun c dx H' s' y => h' c dx H' (e0.hh.trans s') (y.back e0.hh)
  | ok x =>
    rw [w1] at h'
    intro v1 R1 H1 e1 q1
    refine b2 σ τ R1 H1 _ (hs.mono e1.rr) e1.sub ?_
    have h2 : Post X.K X.mg (xat E τ) (rV X.K) R H Q ((g σ).bind fun y => dic1D x y) := h'
    have e01 := e0.trans e1
    cases w2 : g σ with
    | stuck => rw [w2] at h2; exact h2
    | exc x => rw [w2] at h2; exact fun c dx H' s' y => h2 c dx H' (e01.hh.trans s') (y.back e01.hh)
    | ok y =>
      rw [w2] at h2
      intro v2 R2 H2 e2 q2
      have e02 := e01.trans e2
      have h3 : Post X.K X.mg (xat E τ) (rV X.K) R H Q (dic1D x y) := h2
      have hd : H2 p = some (.dT []) := (e1.hh.trans e2.hh) _ _ upd_same
      unfold dic1D at h3
      cases w3 : keyOf x with
      | none => rw [w3] at h3; exact h3.elim
      | some ns =>
        rw [w3] at h3
        have ex := keyOf_inv w3
        subst ex
        cases q1.mono e2.rr with
        | @tup b xs _ g1 g2 =>
          have g3 := g2.ints_inv
          subst g3
          refine ⟨hd, ns.map Sum.inl, b, v2, rfl, ?_, ?_⟩
          · rw [e2.sub _ _ g1, List.map_map]; rfl
          · have np : R2 p = none := by
              cases w4 : R2 p with
              | none => rfl
              | some o =>
                have hh2 := e2.sub _ _ w4
                rw [hd] at hh2
                cases hh2
                rcases e2.new p _ w4 with z1 | z1 | ⟨us, z1⟩
                · rcases e1.new p _ z1 with z2 | z2 | ⟨us, z2⟩
                  · rw [s.free hp] at z2; cases z2
                  · rw [upd_same] at z2; cases z2
                  · cases z2
                · rw [e1.hh _ _ upd_same] at z1; cases z1
                · cases z1
            refine h3 _ (upd R2 p (.dT [(ns.map Sum.inl, v2)])) _ ⟨e02.rr.trans (same_new np), fun c o w => ?_, fun c o w => ?_, fun c o w => ?_⟩ (.dT (.inl upd_same) (.cons (q2.mono (same_new np)) .nil))
            · by_cases hc : c = p
              · subst hc; rw [upd_same] at w ⊢; exact w
              · rw [upd_ne hc] at w ⊢; exact e2.sub _ _ w
            · have hc : c ≠ p := fun z => by subst z; rw [hp] at w; cases w
              rw [upd_ne hc]; exact e02.hh _ _ w
            · by_cases hc : c = p
              · subst hc; exact .inr (.inl hp)
              · rw [upd_ne hc] at w; exact e02.new c o w
end
section
variable {X : Cx}
def rRepG (K : PySem.W.Frag) : R2 := fun x y H Q => ∃ l k xs, x = .ref l ∧ y = .int k ∧ LsQ K H l xs ∧ -(2 ^ 63) ≤ k ∧ k < 2 ^ 63 ∧ xs.length * k.toNat ≤ sizeLine ∧
  ∀ p, H p = none → Q (.ref p) (upd H p (.lst (List.replicate k.toNat xs).flatten))
theorem op_repG : OpR X (binaryOp .Mult) (rRepG X.K) := by
  intro pins s σ H x y v u Q I rx ry h
  obtain ⟨l, k, xs, rfl, rfl, hH, h1, h2, hz, q⟩ := h
  cases rx
  obtain ⟨t, rfl⟩ := ry
  obtain ⟨z, its, n, r, e⟩ := hH.at I
  have hl := r.length
  have hlen : its.toArray.size * k.toNat ≤ sizeLine := by rw [List.size_toArray, ← hl]; exact hz
  have hcap : ¬ its.toArray.size * k.toNat > (2 ^ 63 - 1) / 8 := by
    have : (sizeLine : Nat) ≤ (2 ^ 63 - 1) / 8 := by decide
    omega
  have hfit : ¬ (!Builtin.List.listFitsIndex k) = true := by
    rw [fitsIndex_both h1 h2]
    exact Bool.false_ne_true
  have hlong : ¬ Builtin.List.listTooLong (its.toArray.size * k.toNat) = true := by
    rw [notLongL hlen]
    exact Bool.false_ne_true
  have hnew : List.foldl (fun x1 x2 => x1 ++ x2) #[] (List.replicate (if its.toArray.isEmpty = true then 0 else k.toNat) its.toArray) = (List.replicate k.toNat its).flatten.toArray := by
    have f0 : ∀ m : Nat, List.foldl (fun x1 x2 => x1 ++ x2) #[] (List.replicate m its.toArray) = (List.replicate m its).flatten.toArray := fun m => by
      have := foldl_rep its m []
      rw [List.nil_append] at this
      exact this
    rw [f0]
    cases its with
    | nil => simp
    | cons a r' => rw [if_neg (by simp)]
  refine wpAny_binaryOp_repeat_ref (T := "list") (U := "int") (by decide) ⟨_, e, rfl⟩ (fun s' => typeIs_int s' k t) noFill_list_mul F.fills_int_mul F.slot_int_rmul repeat_list F.slot_int_index.lookup
    (call_meets F.slot_int_rmul (typeIs_int s k t) F.entry_int_rmul (F.args_int_rmul_2 _ _) (int___rmul___int_list k t l its.toArray n)
      ⟨e, rfl, ⟨_, e, rfl⟩, call_meets F.slot_list_mul ⟨_, e, rfl⟩ F.entry_list_mul (F.args_list_mul_2 _ _) (AutoListH.list___mul___list_int_3 l its.toArray n k t hfit hcap hlong) ⟨e, ?_⟩⟩)
  rw [hnew]
  exact ⟨.ref _, _, I.lnew (t' := s.toks) (r.rep k.toNat) (by rw [PyProof.Rows.lm_len_rep_flat, Nat.mul_comm]; exact hz), rfl, q _ I.fresh⟩
theorem RpA.rep {K : PySem.W.Frag} {R : Hp} {vs : List V} {ds : List D} (h : RpA K R vs ds) : ∀ n : Nat, RpA K R (List.replicate n vs).flatten (List.replicate n ds).flatten
  | 0 => .nil
  | n + 1 => by
    rw [List.replicate_succ, List.replicate_succ, List.flatten_cons, List.flatten_cons]
    exact h.append (h.rep n)
def mulLD : D → D → Res D
  | .list xs, .int k => if 0 ≤ k ∧ k < 2 ^ 63 ∧ xs.length * k.toNat ≤ sizeLine then .ok (.list (List.replicate k.toNat xs).flatten) else .stuck
  | x, y => mulD x y
theorem od_mulL : OpD X (binaryOp .Mult) mulLD := by
  obtain ⟨r0, c0, h0⟩ := od_mul (X := X)
  refine ⟨_, op_repG.or c0, fun v w x y R H Q Ex rx ry s h => ?_⟩
  by_cases hd : ∃ xs k, x = .list xs ∧ y = .int k
  · obtain ⟨xs, k, rfl, rfl⟩ := hd
    cases rx with
    | lst g1 g2 =>
      cases ry with
      | int k =>
        simp only [mulLD] at h
        by_cases hl : 0 ≤ k ∧ k < 2 ^ 63 ∧ xs.length * k.toNat ≤ sizeLine
        · rw [if_pos hl] at h
          exact .inl ⟨_, k, _, rfl, rfl, ls_same s g1, by omega, hl.2.1, by rw [g2.length]; exact hl.2.2, fun p hp => new_lst (g2.rep k.toNat) s hp h⟩
        · rw [if_neg hl] at h; exact h.elim
  · refine .inr (h0 v w x y R H Q Ex rx ry s ?_)
    have e : mulLD x y = mulD x y := by
      unfold mulLD
      split
      · exact absurd ⟨_, _, rfl, rfl⟩ hd
      · rfl
    rw [← e]; exact h
end
end E3

namespace E3
open PySem PySem.Spec PyProof.Rows L2
structure OwnInit (K : PySem.W.Frag) (M : Addr) : Prop where
  rd : PySem.W.readsIn K M (.type "type") = true
  ga : PySem.W.specialIn K (.ref M) "__getattribute__" = some (some (.builtin "type.__getattribute__"))
  at_ : PySem.W.findCls K (.ref M) (.type "type") "__init__" = some (.val (.builtin "ValueError.__init__"))
section
variable {X : Cx} {o e : Expr} {es : List Expr} {to te : TE} {ta : TA} {f : Str} {p p' p1 p2 pos : Pos}
theorem pe_oinit {m : Str} {M : Addr} {pl : Sem Bool} (T : OwnInit X.K M) (hg : Gl X m) (hm : X.mg m = some (.ref M)) (ha : PA X (e :: es) ta) (hdb : (m == ("__debug__" : Str)) = false := by decide)
    (hc : eval (.Call (.Attribute (.Name m p1) "__init__" p2) (e :: es) [] pos) X.env = (do
      let ov ← eval (.Name m p1) X.env
      standAt p2.atName
      let (f, first) ← holding [ov] (getMethod ov "__init__" pl)
      callWith pos f first (backTo pos (starEach (e :: es) X.env)) (backToKw pos (keywordEach [] X.env))) := by rfl)
    (he : starEach (e :: es) X.env = (false, eval e X.env) :: starEach es X.env := by rfl) (hpl : (backTo pos (starEach es X.env)).any (·.1) = false := by rfl) :
    PE X (.Call (.Attribute (.Name m p1) "__init__" p2) (e :: es) [] pos) (tVeI X.K ta) := by
  refine ⟨fun pins s σ H Q I h => ?_⟩
  refine PySem.W.methodCall_KW (ld_glob I hg hm ?_ hdb) hc
  refine PySem.W.method_cls I.kIn T.ga (PySem.W.cls_value I.kIn T.rd T.at_ rfl ?_)
  show wpAny _ _ (callWith pos (Value.builtin "ValueError.__init__") [] (backTo pos (starEach (e :: es) X.env)) []) _ _ _
  refine PyProof.Rows.callWith_method1 (thn (ha.run pos pins _ σ H _ (I.tok _) h) fun us s1 ⟨vs, H1, I1, r1, a, C, ws, ev, hl, T, ea, q⟩ => ?_) he hpl
  subst ev
  cases r1 with
  | @cons _ u0 _ ur ra rw' =>
    obtain rfl : u0 = Value.ref a := ra
    have hlen : ur.length ≤ sizeLine := by
      rw [← Paired.length rw', sizeLine_eq]
      omega
    exact oinit_ok T I1 ea hlen fun s' J => ⟨.non, H1, J, rfl, q⟩
end
def spI (C : Addr) (f : Str) : Sp := fun vs H Q _ => ∃ (a : Addr) (v : V), vs = [.ref a, v] ∧ H a = some (exo a C none) ∧ ∀ dx, H dx = none → dx ≠ a → Q .non (upd (upd H dx (exd dx [(f, v)])) a (exo a C (some dx)))
section
variable {P : Program} {w : World} {K : PySem.W.Frag} {mg : Str → Option Value} {base : Heap}
theorem fn_mkI {qual : Str} {st : Stmt} {f C : Addr} {fd : FuncData} {y fld txt : Str} (F : Fun K "__init__" qual st f fd) (S : FnScope ["self", y] ["self", y] (defScope st)) (T : OexC K C) (hno : PySem.W.findIn K (.ref C) fld = some none)
    (hb : ∀ (cdv : Value) (A : Around) (outer : List Env) (s : Shared) (H : Hp) (Ex : XK), PSs (cxOf (L2.CX P w) P w K mg base ["self", y] qual (defScope st) f cdv A outer s H Ex) (defBody st) (tSeq (tDrop (tVeI K (tCons (tVar 0) (tCons (tC (.str txt)) tNil)))) (tOst K fld (tVar 0) (tVar 1)))) :
    FnOk P w K mg base (L2.CX P w) 1 f fd ["self", y] (spI C fld) := by
  refine F.okX (k := 0) S (fun vs H Q Ex h => ?_) (fun cdv A outer s H vs Q Ex hr h => ?_)
  · obtain ⟨a, v, rfl, _⟩ := h
    rfl
  · obtain ⟨a, v, rfl, ea, q⟩ := h
    refine ⟨_, hb cdv A outer s H Ex, ?_⟩
    refine ⟨.ref a, rfl, a, C, [.str txt], rfl, show 1 ≤ 1000 by decide, T, ea, ?_⟩
    exact ⟨v, rfl, .ref a, rfl, a, C, rfl, T, hno, .inl ⟨ea, fun dx h1 h2 => q dx h1 h2⟩⟩
end
def sRaiseF (x fld : Str) (fe : DS → Res D) : SF := fun σ => thenR (fe (mask σ)) σ fun d => match d with
  | .int n => .exc ⟨x, some (fld, .int n)⟩ σ
  | _ => .stuck
section
variable {X : Cx} {E : WX} {x fld y : Str} {p pos pos' : Pos} {C fI : Addr} {fd : FuncData} {e : Expr} {fe : DS → Res D}
theorem ds_raiseF (T : OexC X.K C) (iC : PySem.W.findIn X.K (.ref C) "__init__" = some (some (.ref fI))) (tI : PySem.W.typeIn X.K (.ref fI) = some (.type "function"))
    (F1 : FnOk X.prog X.w X.K X.mg X.base (L2.CX X.prog X.w) 1 fI fd ["self", y] (spI C fld)) (hr : Room 2 X.A) (hb : Binds X.K fd ["self", y] []) (gC : X.mg x = some (.ref C)) (hg : Gl X x) (hc : X.calm = true) (tk : Takes X E) (he : DE X E e fe)
    (hdb : (x == ("__debug__" : Str)) = false := by decide) (hst : starEach [e] X.env = (false, eval e X.env) :: starEach [] X.env := by rfl) (hpl : (backTo pos (starEach [] X.env)).any (·.1) = false := by rfl) :
    DS1 X E (.Raise (some (.Call (.Name x p) [e] [] pos)) none pos') (sRaiseF x fld fe) := by
  obtain ⟨te, e1, e2⟩ := he
  have hx : Passes (L2.CX X.prog X.w) X (fun _ _ _ => False) := fun pins σ H s e s' I c => by
    obtain ⟨_, _, _, _, _, _, _, _, _, _, _, _, z⟩ := c
    exact z.elim
  refine ⟨_, ps_raise hc tk (pmk_oex T iC tI F1 hr hb (dvs := []) .nil hx hg gC (pa_cons e1 pa_nil hst) hdb hst hpl), fun R0 H0 σ τ R H Dn I q => ?_⟩
  unfold sRaiseF at q
  refine e2 (mask σ) τ R H _ I.mask I.ext.sub ?_
  cases z : fe (mask σ) with
  | exc ex => rw [z] at q; exact fun c dx H' s y => q c dx R H' τ (I.same s) (y.back I.ext.hh)
  | stuck => rw [z] at q; exact q.elim
  | ok d =>
    rw [z] at q
    intro v R1 H1 x1 r1
    have I1 := I.step x1
    cases d with
    | int n =>
      cases r1
      refine ⟨show 1 ≤ 1000 by decide, fun a ha => ⟨a, .int n, rfl, upd_same, fun dx h1 h2 => ?_⟩⟩
      rw [upd_ne h2] at h1
      refine ⟨rfl, dx, [(fld, .int n)], upd_same, by rw [upd_ne h2]; exact upd_same, h1, ?_⟩
      have eh : upd (del (upd (upd (upd H1 a (exo a C none)) dx (exd dx [(fld, V.int n)])) a (exo a C (some dx))) a) dx (.xd [(fld, V.int n)]) = upd H1 dx (.xd [(fld, V.int n)]) := by
        funext b
        by_cases hb : b = dx
        · subst hb; rw [upd_same, upd_same]
        · rw [upd_ne hb, upd_ne hb]
          by_cases hba : b = a
          · subst hba; rw [del_same, ha]
          · rw [del_ne hba, upd_ne hba, upd_ne hb, upd_ne hba]
      rw [eh]
      exact q _ _ _ _ _ (I1.step (Ext.allocH I1.ext.sub h1)) ⟨⟨gC, dx, .int n, rfl, upd_same, .int n⟩, fun b hb => by cases hb; exact I1.ext.hh.free h1⟩
    | _ => exact q.elim
end
def fldR (ok : Str → Bool) (f : Str) : D → Res D
  | .dict [(.none, .str y), (.str g, .int n)] => if ok y && g == f then .ok (.int n) else .stuck
  | _ => .stuck
def FldOk (K : PySem.W.Frag) (f : Str) (ok : Str → Bool) : Prop := ∀ y C, ok y = true → PySem.W.nsIn K mainGlobals y = some (some (.ref C)) → XfC K C ∧ PySem.W.findIn K (.ref C) f = some none
theorem fld_one {K : PySem.W.Frag} {x f : Str} {c : Addr} (n : PySem.W.nsIn K mainGlobals x = some (some (.ref c))) (T : XfC K c) (no : PySem.W.findIn K (.ref c) f = some none) : FldOk K f (fun y => y == x) := fun y C h1 h2 => by
  have e : y = x := by simpa using h1
  subst e
  rw [n] at h2
  cases h2
  exact ⟨T, no⟩
section
variable {X : Cx} {E : WX} {e : Expr} {pos : Pos} {f : Str} {fe : DS → Res D} {ok : Str → Bool}
def tXe (K : PySem.W.Frag) (f : Str) (te : TE) : TE := fun σ H Q => te σ H fun x H1 => ∃ (a C b : Addr) (fs : List (Str × V)) (v : V), x = .ref a ∧ H1 a = some (.ext (ErO C a (some b))) ∧ H1 b = some (.xd fs) ∧ XfC K C ∧ PySem.W.findIn K (.ref C) f = some none ∧ fs.lookup f = some v ∧ Q v H1
theorem pe_xe {te : TE} (he : PE X e te) (hb : attributeBase e f X.env (eval e X.env) = eval e X.env := by rfl) : PE X (.Attribute e f pos) (tXe X.K f te) := by
  refine ⟨fun pins s σ H Q I h => ?_⟩
  refine attr_of hb (thn (he.run pins s σ H _ I h) fun u s1 hh => ?_)
  obtain ⟨x, H1, I1, rx, a, C, b, fs, v, ex, ea, eb, T, hno, l, q⟩ := hh
  subst ex
  obtain rfl : u = Value.ref a := rx
  have ok1 : ObjOk X.prog X.w H1 s1.heap a (.ext (ErO C a (some b))) := I1.hok a _ ea
  obtain ⟨⟨oe, vs, ha, hz, hd⟩, _⟩ := ok1
  have hx : ObjOk X.prog X.w H1 s1.heap b (.xd fs) := I1.hok b _ eb
  obtain ⟨mA, hns, hr⟩ := hx
  obtain ⟨od, ho, hl⟩ := lookIn_ns hns
  obtain ⟨u, hu, ru⟩ := RelO.some_of (v := v) (o := mA f) (by rw [← l]; exact hr f)
  have J : PySem.W.InstAt s1.heap a oe C (some od) := ⟨ha, hz.1, by unfold PySem.W.notCls; rw [hd] <;> rfl, by rw [hz.2]; exact ho⟩
  exact HandSPX.exc_get I1.kIn J T.ga T.gg T.exC (PySem.W.findObj_own T.hdC hno rfl (by rw [hl, hu])) (handed_of ru) ⟨v, H1, I1.tok _, ru, q⟩
theorem de_fld (T : FldOk X.K f ok) (he : DE X E e fe) (hb : attributeBase e f X.env (eval e X.env) = eval e X.env := by rfl) : DE X E (.Attribute e f pos) (e1 (fldR ok f) fe) := by
  obtain ⟨te, e1, e2⟩ := he
  refine ⟨_, pe_xe e1 hb, fun σ τ R H Q hs s h => e2 σ τ R H _ hs s (post_bind s h fun d v R1 H1 x1 q1 k1 => ?_)⟩
  cases q1 with
  | @ob a x k vs kvs o rf =>
    cases o with
    | er m1 m2 => cases rf; exact k1.elim
    | ins m1 m2 => exact k1.elim
    | @erf C b g v m1 m2 m3 =>
      cases rf with
      | @cons _ _ _ d _ rv rn =>
        cases rn
        cases d with
        | int n =>
          cases rv
          simp only [fldR] at k1
          by_cases hk : (ok x && g == f) = true
          · rw [if_pos hk] at k1
            obtain ⟨h1, h2⟩ := Bool.and_eq_true_iff.mp hk
            have h3 : g = f := by simpa using h2
            subst h3
            obtain ⟨t1, t2⟩ := T x C h1 m1
            exact ⟨a, C, b, _, .int n, rfl, x1.sub _ _ m2, x1.sub _ _ m3, t1, t2, by simp [List.lookup], Post.now x1.sub (Rp.int n) k1⟩
          · rw [if_neg hk] at k1; exact k1.elim
        | _ => exact k1.elim
  | dT g1 g2 =>
    exfalso
    cases g2 with
    | nil => exact k1
    | cons _ _ => exact k1
  | _ => exact k1.elim
end
end E3

namespace E3
open PySem PySem.Spec PyProof.Rows L2
section
open PySem.W
variable {prog : Program} {w : World} {A : Around} {E : Value → Shared → Prop} {s : Shared} {K : Frag} {x D : Addr} {ox : Obj} {od : Option Obj}
theorem findObj_dataO {C : Addr} {name : Str} {a g : Value} (hc : (clsIn K C).isSome = true) (ha : findIn K (.ref C) name = some (some a)) (hg : specialIn K a "__get__" = some (some g)) (ht : takesIn K a = some true) : findObj K C od name = some (.bind g a) := by
  obtain ⟨cd, hc⟩ := Option.isSome_iff_exists.mp hc
  unfold findObj
  rw [hc, Option.bind_some, ha, Option.bind_some]
  simp [hg, ht]
theorem kin_classO {Q : Option Value → Shared → Prop} (hga : findIn K (.ref D) "__getattribute__" = some (some (.builtin "BaseException.__getattribute__"))) (hgt : findIn K (.ref D) "__getattr__" = some none) (hsub : subIn K (.ref D) (.type "BaseException") = some true)
    (hdct : hasDictIn K D = true) (ha : findIn K (.ref D) "__class__" = some (some (.builtin "object.__class__")))
    (hn : specialIn K (.builtin "object.__class__") "__get__" = some (some (.builtin "getset_descriptor.__get__"))) (htk : takesIn K (.builtin "object.__class__") = some true) (hm : mroIn K D (.type "object") = some true)
    (X : K.In s.heap) (I : InstAt s.heap x ox D od) (h : Q (some (.ref D)) { s with toks := s.toks + 1 }) : wpAny (model prog w) A (getAttr? (.ref x) "__class__") Q E s := by
  have hf : findObj K D od "__class__" = some (.bind (.builtin "getset_descriptor.__get__") (.builtin "object.__class__")) := findObj_dataO (by obtain ⟨cd, hc, _⟩ := any_some hdct; rw [hc]; rfl) ha hn htk
  obtain ⟨hp, g, d, t, os⟩ := s
  have L0 := I.type (M := model prog w)
  have L1 := looks_findIn (M := model prog w) X hga
  have L2 := looks_findIn (M := model prog w) X hgt
  have L3 := looks_find (M := model prog w) X I hf
  have sub : Looks (model prog w) hp (isInstance (.ref x) (.type "BaseException")) true := L0.andThen (looks_subIn X hsub)
  have hx0 : (false && onTheHeap (Value.builtin "BaseException.__getattribute__")) = false := rfl
  have hx2 : (Value.builtin "BaseException.__getattribute__" == Value.builtin "object.__getattribute__") = false := by decide +kernel
  have hx1 : (onTheHeap (Value.ref D) && Value.builtin "BaseException.__getattribute__" == Value.builtin "object.__getattribute__") = false := by rw [hx2]; rfl
  unfold getAttr? getAttrBy? getAttrBy
  refine wpAny_bind (wpAny_mkText (wpAny_bind (wpAny_attempt (wpAny_holding (wpAny_bind (L0.at (wpAny_bind (L1.at ?_))))))))
  show wpAny _ _ (if (onTheHeap (Value.ref D) && Value.builtin "BaseException.__getattribute__" == Value.builtin "object.__getattribute__") = true then _ else _) _ _ _
  rw [hx1, if_neg Bool.false_ne_true]
  unfold getAttrByItsOwn hookBefore
  refine wpAny_bind ?_
  rw [if_pos (show onTheHeap (Value.ref D) = true from rfl)]
  refine L2.at ?_
  refine wpAny_bind (wpAny_attempt (wpAny_holding ?_))
  unfold callGetattribute
  rw [hx0, if_neg Bool.false_ne_true]
  unfold boundAndCalled
  rw [PySem.F.excAttr_ValueError.ga.bind (.ref x)]
  refine wpAny_bind (wpAny_pure ?_)
  show wpAny _ _ (call (.builtin "BaseException.__getattribute__") [.ref x, .str "__class__" t]) _ _ _
  refine wpAny_call (codeAny_call_builtin PySem.F.excAttr_ValueError.ga.plain PySem.F.entry_bexc_ga ?_)
  refine @check_slot (model prog w) _ _ ⟨hp, g, d, t + 1, os⟩ "BaseException.__getattribute__" "BaseException" "__getattribute__" (.ref x) [.str "__class__" t] [] _ (by decide +kernel) (by decide +kernel) sub (PySem.F.args_bexc_ga (.ref x) (.str "__class__" t)) ?_
  unfold Builtin.«object.__getattribute__»
  refine wpAny_bind (wpAny_of_eq (a := ((Value.ref x : Value), [Value.str "__class__" t])) (by first | rfl | (simp only [slotArgs]; rfl)) ?_)
  refine wpAny_bind (wpAny_pure (wpAny_bind (L0.at (wpAny_bind (L3.at ?_)))))
  show wpAny _ _ (holding [Value.builtin "object.__class__"] (call (.builtin "getset_descriptor.__get__") [.builtin "object.__class__", .ref x, .ref D]) >>= ret) _ _ _
  refine wpAny_bind (wpAny_holding (wpAny_call (class_get (s := ⟨hp, g, d, t + 1, os⟩) (ox := ox) (od := od) X I hm ?_)))
  refine wpAny_pure ?_
  show wpAny _ _ (handedOut (.ref D)) _ _ _
  rw [handedOut_of (v := .ref D) rfl]
  first
    | exact wpAny_pure (wpAny_pure h)
    | exact wpAny_pure h
    | exact wpAny_pure (wpAny_bind (wpAny_pure (wpAny_pure h)))
theorem kitx_excO (F : ExcC K D) : KitX K (.ref x) (.ref D) (fun h => InstAt h x ox D od) where
  ty := fun _ _ _ I => I.type
  it := fun _ _ X _ => by
    obtain ⟨cdD, hcD, _⟩ := any_some F.hd
    unfold clsIn at hcD
    split at hcD
    · rename_i c' d' cd' sl' ho
      intro A' Q' E' s' k q
      unfold isType loadHead
      exact wpAny_bind (wpAny_loadPart (k _ _ (X _ _ ho)) (wpAny_pure q))
    · cases hcD
  ne := fun h tp dd its n sl X htp => by
    obtain ⟨cdD, hcD, _⟩ := any_some F.hd
    refine Bool.eq_false_iff.mpr fun q => ?_
    have e : D = tp := Value.ref.inj (beq_iff_eq.mp q)
    subst e
    unfold clsIn at hcD
    split at hcD
    · rename_i c' d' cd' sl' ho
      have z := (X _ _ ho).symm.trans htp
      cases z
    · cases hcD
  ca := fun X I k => kin_classO F.hg F.hk F.hs F.hd F.ha F.hn F.ht F.hm X I k
end
def TyE (K : PySem.W.Frag) (H : Hp) (v : V) (t : Value) : Prop := TyO K H v t ∨ ∃ a C b fs, v = .ref a ∧ t = .ref C ∧ H a = some (.ext (ErO C a (some b))) ∧ H b = some (.xd fs) ∧ ExcC K C
section
variable {X : Cx} {E : WX} {Ex : XK} {pins : List (Addr × Obj)} {σ0 : L2.St} {H : Hp} {s : Shared}
theorem kit_ofE {x : V} {u t : Value} (I : Inv X pins σ0 H s) (rx : RelV x u) (ty : TyE X.K H x t) : ∃ P : Heap → Prop, PySem.W.KitX X.K u t P ∧ P s.heap ∧ u ≠ .builtin "__main__.__loader__#opaque" := by
  rcases ty with ty | ⟨a, C, b, fs, rfl, rfl, hH, hb, F⟩
  · exact kit_ofO I rx ty
  · have eu : u = Value.ref a := rx
    subst eu
    have ok : ObjOk X.prog X.w H s.heap a (.ext (ErO C a (some b))) := I.hok a _ hH
    obtain ⟨⟨⟨oc, od, oda, osl⟩, vs, hget, ⟨z1, z2⟩, z3⟩, _⟩ := ok
    dsimp only at z1 z2 z3
    subst z1 z2 z3
    have hx : ObjOk X.prog X.w H s.heap b (.xd fs) := I.hok b _ hb
    obtain ⟨mA, hns, hr⟩ := hx
    obtain ⟨ob, ho, hl⟩ := lookIn_ns hns
    exact ⟨_, kitx_excO (od := some ob) F, ⟨hget, rfl, rfl, ho⟩, fun z => nomatch z⟩
def rIsE2 (K : PySem.W.Frag) : List V → Hp → VK → Prop := fun xs H Q => ∃ (x c : V) (t u : Value) (b : Bool), xs = [x, c] ∧ ClsV c u ∧ TyE K H x t ∧ PySem.W.kitOne K t u = some b ∧ Q (.bl b) H
theorem call_isE2 : CallR X (.builtin "isinstance") (rIsE2 X.K) := by
  intro pn st τ G xs us Q I r q
  obtain ⟨x, c, t, u, b, rfl, k, ty, e, q⟩ := q
  obtain ⟨w1, w2, rfl, r1, r2⟩ := vals2 r
  have e2 := k.eq r2
  subst e2
  obtain ⟨P, Z, p, nx⟩ := kit_ofE I r1 ty
  exact PySem.W.kia_one Z I.kIn p e nx fun n => ⟨.bl b, G, I.tok n, rfl, q⟩
def isaE (rel : Str → Option Bool) : D → Res D
  | .none => .ok (.bool false)
  | .dict [(.none, .str y)] => match rel y with
    | some b => .ok (.bool b)
    | none => .stuck
  | .dict [(.none, .str y), (.str _, .int _)] => match rel y with
    | some b => .ok (.bool b)
    | none => .stuck
  | _ => .stuck
theorem isaE_run {kit : Value → Option Bool} {rel : Str → Option Bool} {v : V} {d : D} {R H : Hp} {Q : VK} (non : kit (.type "NoneType") = some false) (er : ∀ y b, rel y = some b → ∃ C, PySem.W.nsIn X.K mainGlobals y = some (some (.ref C)) ∧ ExcC X.K C ∧ kit (.ref C) = some b)
    (r : Rp X.K R v d) (s : Same R H) (h : Post X.K X.mg Ex (rV X.K) R H Q (isaE rel d)) : ∃ t b, TyE X.K H v t ∧ kit t = some b ∧ Q (.bl b) H := by
  cases r with
  | non => exact ⟨_, false, .inl (.inl (.base .non)), non, Post.now s (Rp.bl false) h⟩
  | @ob a x k vs kvs o f =>
    cases o with
    | ins m1 m2 => exact h.elim
    | @erf C' b0 g v0 m1 m2 m3 =>
      cases f with
      | @cons _ _ _ d0 _ rv rn =>
        cases rn
        cases d0 with
        | int n =>
          simp only [isaE] at h
          cases k : rel x with
          | none => rw [k] at h; exact h.elim
          | some b =>
            rw [k] at h
            obtain ⟨C, n1, n2, n3⟩ := er x b k
            rw [n1] at m1
            cases m1
            exact ⟨_, b, .inr ⟨a, _, b0, _, rfl, rfl, s _ _ m2, s _ _ m3, n2⟩, n3, Post.now s (Rp.bl b) h⟩
        | _ => exact h.elim
    | @er C' m1 m2 =>
      cases f
      simp only [isaE] at h
      cases k : rel x with
      | none => rw [k] at h; exact h.elim
      | some b =>
        rw [k] at h
        obtain ⟨C, n1, n2, n3⟩ := er x b k
        rw [n1] at m1
        cases m1
        exact ⟨_, b, .inl (.inr (.inl ⟨a, _, rfl, rfl, s _ _ m2, n2⟩)), n3, Post.now s (Rp.bl b) h⟩
  | dT g1 g2 =>
    exfalso
    cases g2 with
    | nil => exact h
    | cons _ r2 =>
      cases r2 with
      | nil => exact h
      | cons _ r3 => cases r3 <;> exact h
  | _ => exact h.elim
variable {e : Expr} {f : DS → Res D} {pos p p2 : Pos} {x : Str}
theorem de_isaE {c : V} {u : Value} {rel : Str → Option Bool} (F : IsaOk X.K u rel) (n : Names X x u) (k : ClsV c u) (hc : X.mg "isinstance" = none) (hg : Gl X "isinstance") (he : DE X E e f)
    (h1 : starEach [e, .Name x p2] X.env = (false, eval e X.env) :: starEach [.Name x p2] X.env := by rfl) (h2 : starEach [.Name x p2] X.env = (false, eval (.Name x p2) X.env) :: starEach [] X.env := by rfl)
    (hpl : (backTo pos (starEach [.Name x p2] X.env)).any (·.1) = false := by rfl) : DE X E (.Call (.Name "isinstance" p) [e, .Name x p2] [] pos) (e1 (isaE rel) f) := by
  obtain ⟨t, a1, a2⟩ := he
  refine ⟨_, pe_callB call_isE2 hg hc boot_isinstance (pa_cons a1 (pa_cons (pe_cls n k) pa_nil h2) h1) (by decide) (by decide) h1 hpl, fun σ τ R H Q hs s h => a2 σ τ R H _ hs s (post_bind s h fun d v R1 H1 x1 q1 k1 => ?_)⟩
  obtain ⟨ty, b, t1, t2, t3⟩ := isaE_run (kit := fun t => PySem.W.kitOne X.K t u) F.non F.er q1 x1.sub k1
  exact ⟨v, c, ty, u, b, rfl, k, t1, t2, t3⟩
end
section
variable {X : Cx} {E : WX} {e : Expr} {es : List Expr} {ta : TE} {p pos : Pos} {x : Str} {fe : DS → Res D}
theorem erO_ok {P : Program} {w : World} {H : Hp} {h : Heap} {a C : Addr} {d : Option Addr} {oe : Obj} {vs : Array Value} (e : h.get? a = some oe) (z : Zc (.ref C) d oe) (hd : oe.data = .fields vs) : ObjOk P w H h a (.ext (ErO C a d)) :=
  ⟨⟨oe, vs, e, z, hd⟩, ⟨oe, e⟩, fun _ _ ⟨o, v, q, r⟩ k => ⟨o, v, k o q, r⟩⟩
theorem pe_mk1 {C : Addr} {bmB : List Value} {B newId initId : String} (F : ExcBaseFacts B newId initId bmB) (q : PySem.W.excIn X.K C bmB newId = true) (gC : X.mg x = some (.ref C)) (kC : PySem.W.keepIn X.K (.ref C) = true) (hg : Gl X x)
    (he : PE X e ta) (hs : starEach [e] X.env = (false, eval e X.env) :: starEach [] X.env := by rfl) (hdb : (x == ("__debug__" : Str)) = false := by decide) :
    PE X (.Call (.Name x p) [e] [] pos) (fun σ H Q => ta σ H fun _ H1 => ∀ a, H1 a = none → Q (.ref a) (upd H1 a (.ext (ErO C a none)))) := by
  refine ⟨fun pins s σ H Q I h => ?_⟩
  refine wpAny_Call_Name_kw (ld_glob I hg gC ?_ hdb)
  refine PySem.W.callWith_K (h₀ := X.base) I.ok.mod.kin kC ?_ hs (by rfl)
  rw [hs]
  show wpAny _ _ (spliced ((false, eval e X.env) :: backTo pos (starEach [] X.env))) _ _ s
  refine Calls.spliced_cons (thn (he.run pins s σ H _ I h) fun u s1 ⟨v, H1, I1, r1, q1⟩ => ?_)
  refine Calls.spliced_nil ⟨I1.kIn, ?_⟩
  show wpAny _ _ (call (.ref C) [u]) _ _ _
  obtain ⟨bm, N, nm, qn, bs, hdct, sn, sub, ab, col, dd, k0, k1, k2, k3, k5, mN, hC, hN, hni, T⟩ := exc_obj I1.kIn q
  refine wpAny_call_exc_subT F T hC hN hni (fun h' a hm => ?_) (by show 1 ≤ sizeLine; rw [sizeLine_eq]; omega)
  have hn : H1 a = none := I1.hok.gone hm.new
  obtain ⟨t, ht, _, _⟩ := hm.there
  exact ⟨.ref a, upd H1 a (.ext (ErO C a none)), I1.laidN hm.keeps hm.new hn (erO_ok ht ⟨rfl, rfl⟩ rfl), rfl, q1 a hn⟩
def mkE (x : Str) : D → Res D := fun _ => .ok (.dict [(.none, .str x)])
theorem de_mkE {C : Addr} {bmB : List Value} {B newId initId : String} (F : ExcBaseFacts B newId initId bmB) (q : PySem.W.excIn X.K C bmB newId = true) (nC : PySem.W.nsIn X.K mainGlobals x = some (some (.ref C))) (gC : X.mg x = some (.ref C)) (kC : PySem.W.keepIn X.K (.ref C) = true) (hg : Gl X x)
    (he : DE X E e fe) (hs : starEach [e] X.env = (false, eval e X.env) :: starEach [] X.env := by rfl) (hdb : (x == ("__debug__" : Str)) = false := by decide) :
    DE X E (.Call (.Name x p) [e] [] pos) (e1 (mkE x) fe) := by
  obtain ⟨t, a1, a2⟩ := he
  refine ⟨_, pe_mk1 F q gC kC hg a1 hs hdb, fun σ τ R H Q hs s h => a2 σ τ R H _ hs s (post_bind s h fun d v R1 H1 x1 q1 k1 => ?_)⟩
  intro a ha
  have k2 : Post X.K X.mg (xat E τ) (rV X.K) R1 H1 Q (.ok (.dict [(.none, .str x)])) := k1
  exact k2 (.ref a) _ _ (Ext.alloc x1.sub ha) (.ob (.er nC upd_same) .nil)
def tMkV (C : Addr) (sp : Sp) (ta : TA) : TE := fun σ H Q => ta σ H fun vs H1 => vs.length ≤ 1000 ∧ ∀ a, H1 a = none → sp (.ref a :: vs) (upd H1 a (exo a C none))
  (fun v H2 => v = .non ∧ ∃ (d : Addr) (fs : List (Str × V)), d ≠ a ∧ H2 a = some (exo a C (some d)) ∧ H2 d = some (exd d fs) ∧ Q (.ref a) (upd (upd H2 d (.xd fs)) a (.ext (ErO C a (some d))))) (fun _ _ _ => False)
theorem pe_oex {CX : CXT} {C fI : Addr} {k : Nat} {fd : FuncData} {ps : List Str} {sp : Sp} {ta : TA} (T : OexC X.K C) (iC : PySem.W.findIn X.K (.ref C) "__init__" = some (some (.ref fI))) (tI : PySem.W.typeIn X.K (.ref fI) = some (.type "function"))
    (F1 : FnOk X.prog X.w X.K X.mg X.base CX k fI fd ps sp) (hr : Room (k + 1) X.A) (hb : Binds X.K fd ps []) (hx : Passes CX X (fun _ _ _ => False)) (hg : Gl X x) (hm : X.mg x = some (.ref C)) (ha : PA X (e :: es) ta)
    (hdb : (x == ("__debug__" : Str)) = false := by decide) (he : starEach (e :: es) X.env = (false, eval e X.env) :: starEach es X.env := by rfl) (hpl : (backTo pos (starEach es X.env)).any (·.1) = false := by rfl) :
    PE X (.Call (.Name x p) (e :: es) [] pos) (tMkV C sp ta) := by
  refine ⟨fun pins s σ H Q I h => ?_⟩
  obtain ⟨nm, q, N, bs, bm, sn, sub, ab, col, dd, k0, k1, k2, k3, k5, hC, hbm⟩ := T.cls
  refine wpAny_Call_Name_kw (ld_glob I hg hm ?_ hdb)
  refine PySem.W.callWith_K (h₀ := X.base) I.ok.mod.kin T.kC (thn (ha.run pos pins s σ H _ I h) fun us s1 ⟨vs, H1, I1, r1, hz, q1⟩ => ⟨I1.kIn, ?_⟩) he hpl
  show wpAny _ _ (call (.ref C) us) _ _ _
  obtain ⟨hp, g, dr, tk, os⟩ := s1
  have hsz : hp.objs.size ≤ hp.objs.size + 1 := Nat.le_succ _
  have hn : H1 (hp.objs.size + 1) = none := I1.hok.fresh hsz
  have hq := q1 (hp.objs.size + 1) hn
  have kk : ∀ b o, hp.get? b = some o → ((hp.push (PySem.W.kdv_tup us)).push (PySem.HandSPX.excO C hp.objs.size)).get? b = some o := fun b o e => Heap.get?_push_of_some _ (Heap.get?_push_of_some _ e)
  have hget : ((hp.push (PySem.W.kdv_tup us)).push (PySem.HandSPX.excO C hp.objs.size)).get? (hp.objs.size + 1) = some (PySem.HandSPX.excO C hp.objs.size) := by heap_get
  have I2 : Inv X pins σ (upd H1 (hp.objs.size + 1) (exo (hp.objs.size + 1) C none)) ⟨(hp.push (PySem.W.kdv_tup us)).push (PySem.HandSPX.excO C hp.objs.size), g, dr, tk, os⟩ :=
    I1.laid (t' := tk) (a := hp.objs.size + 1) (o := exo (hp.objs.size + 1) C none) (h' := (hp.push (PySem.W.kdv_tup us)).push (PySem.HandSPX.excO C hp.objs.size)) kk hsz (exo_ok hget)
  have r2 : Vals (V.ref (hp.objs.size + 1) :: vs) (Value.ref (hp.objs.size + 1) :: us) := .cons rfl r1
  have hl : (Value.ref (hp.objs.size + 1) :: us).length = ps.length := by
    have e := r2.length
    rw [F1.len _ _ _ _ hq] at e
    exact e.symm
  have hus : us.length ≤ sizeLine := by
    rw [← Paired.length r1, sizeLine_eq]
    omega
  have hb2 := hb _ (Value.ref (hp.objs.size + 1) :: us) I2.kIn (by rw [List.append_nil]; exact hl)
  rw [List.append_nil] at hb2
  refine wpAny_call (PySem.HandSPX.call_own F.excBase_ValueError (fun Y => PySem.HandSPX.refsVE_contains Y bm hbm) (I1.kIn _ _ hC) (PySem.W.looks_findIn I1.kIn iC) (fun self => PySem.W.bind_fn I1.kIn self tI) hus
    (codeAny_mono (F1.run _ X.stack _ _ ⟨Value.ref (hp.objs.size + 1) :: us, []⟩ (Value.ref (hp.objs.size + 1) :: us) _ _ (fun _ _ _ => False) (hr.make C us []) (I2.env0.make C us []) hb2 r2 hq) fun r s' hq' => ?_))
  cases r with
  | error er => exact hx pins σ _ _ er s' I2 hq'
  | ok fl =>
    cases fl with
    | ret u =>
      obtain ⟨v, H2, J, rv, ev, d, fs, nda, ea, ed, q2⟩ := I2.after hq'
      subst ev
      cases rv
      refine ⟨rfl, ?_⟩
      obtain ⟨t0, hoe⟩ := exo_at J.hok ea
      obtain ⟨mA, hns, rel⟩ := exd_at J.hok ed
      have hdo : ∃ o, s'.heap.get? d = some o := by
        obtain ⟨o, _, _, e', _⟩ := hns
        exact ⟨o, e'⟩
      have J1 := J.write (t' := s'.toks) (h' := s'.heap) (x := d) (e := d) (o := .xd fs) (by rw [ed]; exact True.intro) (.inl rfl) (fun _ _ _ z => z) hdo ⟨mA, hns, rel⟩
      have ea1 : (upd H2 d (.xd fs)) (hp.objs.size + 1) = some (exo (hp.objs.size + 1) C (some d)) := by rw [upd_ne (Ne.symm nda)]; exact ea
      have J2 := J1.write (t' := s'.toks) (h' := s'.heap) (x := hp.objs.size + 1) (e := hp.objs.size + 1) (o := .ext (ErO C (hp.objs.size + 1) (some d))) (by rw [ea1]; exact True.intro) (.inl rfl) (fun _ _ _ z => z) ⟨_, hoe⟩ (erO_ok hoe ⟨rfl, rfl⟩ rfl)
      exact ⟨.ref (hp.objs.size + 1), _, J2, rfl, q2⟩
    | next => exact False.elim hq'
    | brk => exact False.elim hq'
    | cont => exact False.elim hq'
def mkF (x f : Str) : D → Res D
  | .int n => .ok (.dict [(.none, .str x), (.str f, .int n)])
  | _ => .stuck
theorem de_mkF {C fI : Addr} {fd : FuncData} {y fld : Str} (T : OexC X.K C) (iC : PySem.W.findIn X.K (.ref C) "__init__" = some (some (.ref fI))) (tI : PySem.W.typeIn X.K (.ref fI) = some (.type "function"))
    (F1 : FnOk X.prog X.w X.K X.mg X.base (L2.CX X.prog X.w) 1 fI fd ["self", y] (spI C fld)) (hr : Room 2 X.A) (hb : Binds X.K fd ["self", y] []) (nC : PySem.W.nsIn X.K mainGlobals x = some (some (.ref C))) (gC : X.mg x = some (.ref C)) (hg : Gl X x) (he : DE X E e fe)
    (hdb : (x == ("__debug__" : Str)) = false := by decide) (hst : starEach [e] X.env = (false, eval e X.env) :: starEach [] X.env := by rfl) (hpl : (backTo pos (starEach [] X.env)).any (·.1) = false := by rfl) :
    DE X E (.Call (.Name x p) [e] [] pos) (e1 (mkF x fld) fe) := by
  obtain ⟨te, a1, a2⟩ := he
  have hx : Passes (L2.CX X.prog X.w) X (fun _ _ _ => False) := fun pins σ H s e s' I c => by
    obtain ⟨_, _, _, _, _, _, _, _, _, _, _, _, z⟩ := c
    exact z.elim
  refine ⟨_, pe_oex T iC tI F1 hr hb hx hg gC (pa_cons a1 pa_nil hst) hdb hst hpl, fun σ τ R H Q hs s h => a2 σ τ R H _ hs s (post_bind s h fun d v R1 H1 x1 q1 k1 => ?_)⟩
  cases q1 with
  | int n =>
    have k2 : Post X.K X.mg (xat E τ) (rV X.K) R1 H1 Q (.ok (.dict [(.none, .str x), (.str fld, .int n)])) := k1
    refine ⟨show 1 ≤ 1000 by decide, fun a ha => ⟨a, .int n, rfl, upd_same, fun dx h1 h2 => ?_⟩⟩
    rw [upd_ne h2] at h1
    refine ⟨rfl, dx, [(fld, .int n)], h2, upd_same, by rw [upd_ne h2]; exact upd_same, ?_⟩
    have eh : upd (upd (upd (upd (upd H1 a (exo a C none)) dx (exd dx [(fld, V.int n)])) a (exo a C (some dx))) dx (.xd [(fld, V.int n)])) a (.ext (ErO C a (some dx))) = upd (upd H1 dx (.xd [(fld, V.int n)])) a (.ext (ErO C a (some dx))) := by
      funext b
      by_cases hba : b = a
      · subst hba; rw [upd_same, upd_same]
      · rw [upd_ne hba, upd_ne hba]
        by_cases hbd : b = dx
        · subst hbd; rw [upd_same, upd_same]
        · rw [upd_ne hbd, upd_ne hba, upd_ne hbd, upd_ne hba, upd_ne hbd]
    rw [eh]
    have x2 := Ext.alloc (o := .xd [(fld, V.int n)]) x1.sub h1
    have ha2 : (upd H1 dx (.xd [(fld, V.int n)])) a = none := by rw [upd_ne (Ne.symm h2)]; exact ha
    have x3 := Ext.alloc (o := .ext (ErO C a (some dx))) x2.sub ha2
    refine k2 (.ref a) _ _ (x2.trans x3) (.ob (.erf nC upd_same ?_) (.cons (.int n) .nil))
    rw [upd_ne h2]
    exact upd_same
  | _ => exact k1.elim
end
def slSD : D → Option Int → Option Int → Res D
  | .str z, lo, hi => if z.length ≤ sizeLine then .ok (.str (Txt.slice z lo hi)) else .stuck
  | _, _, _ => .stuck
def eSlS (f : DS → Res D) (lo hi : DS → Res (Option Int)) : DS → Res D := fun σ => (f σ).bind fun x => (lo σ).bind fun l => (hi σ).bind fun u => slSD x l u
section
variable {X : Cx} {E : WX} {e : Expr} {f : DS → Res D} {lo hi : Option Expr} {fl fh : DS → Res (Option Int)} {pos p2 : Pos}
theorem de_sliceS (he : DE X E e f) (hl : DO X E lo fl) (hh : DO X E hi fh) : DE X E (.Subscript e (.Slice lo hi none p2) pos) (eSlS f fl fh) := by
  obtain ⟨te, e1, e2⟩ := he
  obtain ⟨tl, l1, l2⟩ := hl
  obtain ⟨th, h1, h2⟩ := hh
  refine ⟨_, pe_slice C8.sl_txt e1 l1 h1, fun σ τ R H Q hs s h => ?_⟩
  refine e2 σ τ R H _ hs s (post_bind s h fun x v R1 H1 x1 q1 k1 => ?_)
  refine l2 σ τ R1 H1 _ (hs.mono x1.rr) x1.sub (post_bind x1.sub k1 fun l l' R2 H2 x2 q2 k2 => ?_)
  subst q2
  refine h2 σ τ R2 H2 _ ((hs.mono x1.rr).mono x2.rr) x2.sub (post_bind x2.sub k2 fun u u' R3 H3 x3 q3 k3 => ?_)
  subst q3
  cases q1 with
  | str z =>
    unfold slSD at k3
    by_cases hz : z.length ≤ sizeLine
    · simp only [if_pos hz] at k3
      exact ⟨z, rfl, hz, Post.now x3.sub (Rp.str _) k3⟩
    · simp only [if_neg hz] at k3
      exact k3.elim
  | _ => exact k3.elim
end
end E3

namespace E3
open PySem PySem.Spec PyProof.Rows L2
def isiOD (T : String) : D → Res D
  | .dict kvs => if obK kvs then .stuck else .ok (.bool (isiT T (.dict kvs)))
  | d => .ok (.bool (isiT T d))
section
variable {X : Cx} {E : WX} {e : Expr} {f : DS → Res D} {pos p p2 : Pos} {T : String} {x : Str}
theorem de_isiO (hT : TOk T) (hc : X.mg "isinstance" = none) (hg : Gl X "isinstance") (he : DE X E e f) (hgT : Gl X x) (hmT : X.mg x = none) (hbT : bootBuiltins x = some (.type T)) (hn : x ≠ "__name__" := by decide) (hdb : (x == ("__debug__" : Str)) = false := by decide)
    (h1 : starEach [e, .Name x p2] X.env = (false, eval e X.env) :: starEach [.Name x p2] X.env := by rfl) (h2 : starEach [.Name x p2] X.env = (false, eval (.Name x p2) X.env) :: starEach [] X.env := by rfl)
    (hpl : (backTo pos (starEach [.Name x p2] X.env)).any (·.1) = false := by rfl) : DE X E (.Call (.Name "isinstance" p) [e, .Name x p2] [] pos) (e1 (isiOD T) f) := by
  obtain ⟨t, a1, a2⟩ := he
  refine ⟨_, pe_callB call_isO hg hc boot_isinstance (pa_cons a1 (pa_cons (pe_bltn (v := .ty T) hgT hmT hbT rfl hn hdb) pa_nil h2) h1) (by decide) (by decide) h1 hpl, fun σ τ R H Q hs s h => a2 σ τ R H _ hs s (post_bind s h fun d v R1 H1 x1 q1 k1 => ?_)⟩
  have nd : ∀ k, d = .dict k → obK k = false := fun k z => by
    subst z
    cases o : obK k with
    | false => rfl
    | true => simp only [isiOD, o, if_true] at k1; exact k1.elim
  have k2 : Post X.K X.mg (xat E τ) (rV X.K) R1 H1 Q (.ok (.bool (isiT T d))) := by
    cases d with
    | dict k => simp only [isiOD, nd k rfl, Bool.false_eq_true, if_false] at k1; exact k1
    | _ => exact k1
  exact ⟨v, .ty T, _, _, isiT T d, rfl, .ty T, ty_runO q1 x1.sub nd, kit_ty (hT d), Post.now x1.sub (Rp.bl _) k2⟩
end
end E3

namespace E3
open PySem PySem.Spec PyProof.Rows L2
def lkF (f : Str) : List (D × D) → Option D
  | [] => none
  | (.str g, d) :: r => match f == g with
    | true => some d
    | false => lkF f r
  | _ :: r => lkF f r
theorem RpF.look {K : PySem.W.Frag} {H : Hp} {f : Str} : ∀ {fs : List (Str × V)} {kvs : List (D × D)} {d : D}, RpF K H fs kvs → lkF f kvs = some d → ∃ v, fs.lookup f = some v ∧ Rp K H v d
  | _, _, _, .nil, h => by cases h
  | (n, v) :: fs, _, d, .cons r rs, h => by
    unfold lkF at h
    rw [List.lookup_cons]
    cases hb : f == n with
    | true => rw [hb] at h; cases h; exact ⟨_, rfl, r⟩
    | false => rw [hb] at h; exact RpF.look rs h
theorem RpF.lookN {K : PySem.W.Frag} {H : Hp} {f : Str} : ∀ {fs : List (Str × V)} {kvs : List (D × D)}, RpF K H fs kvs → lkF f kvs = none → fs.lookup f = none
  | _, _, .nil, _ => rfl
  | (n, v) :: fs, _, .cons r rs, h => by
    unfold lkF at h
    rw [List.lookup_cons]
    cases hb : f == n with
    | true => rw [hb] at h; cases h
    | false => rw [hb] at h; exact RpF.lookN rs h
def fldI (ok : Str → Bool) (f : Str) : D → Res D
  | .dict ((.bool true, .str y) :: kvs) => match ok y, lkF f kvs with
    | true, some d => .ok d
    | _, _ => .stuck
  | _ => .stuck
def InsOk (K : PySem.W.Frag) (f : Str) (ok : Str → Bool) : Prop := ∀ y C, ok y = true → PySem.W.nsIn K mainGlobals y = some (some (.ref C)) → Cls K C ∧ NoAttr K C f
theorem ins_inv {K : PySem.W.Frag} {H : Hp} {v : V} {y : Str} {kvs : List (D × D)} (h : Rp K H v (.dict ((.bool true, .str y) :: kvs))) : ∃ a C dx fs, v = .ref a ∧ PySem.W.nsIn K mainGlobals y = some (some (.ref C)) ∧ H a = some (.ins C dx fs) ∧ RpF K H fs kvs := by
  cases h with
  | dT g1 g2 => cases g2
  | ob o rf =>
    cases o with
    | ins m1 m2 => exact ⟨_, _, _, _, rfl, m1, m2, rf⟩
theorem fldI_inv {ok : Str → Bool} {f : Str} {d : D} : fldI ok f d = .stuck ∨ ∃ y kvs e, d = .dict ((.bool true, .str y) :: kvs) ∧ ok y = true ∧ lkF f kvs = some e ∧ fldI ok f d = .ok e := by
  unfold fldI
  split
  · rename_i y kvs
    cases h1 : ok y with
    | false => exact .inl rfl
    | true =>
      cases h2 : lkF f kvs with
      | none => exact .inl rfl
      | some e => exact .inr ⟨y, kvs, e, rfl, h1, h2, rfl⟩
  · exact .inl rfl
section
variable {X : Cx} {E : WX} {e : Expr} {pos : Pos} {f : Str} {fe : DS → Res D} {ok : Str → Bool}
theorem de_attr (T : InsOk X.K f ok) (he : DE X E e fe) (hb : attributeBase e f X.env (eval e X.env) = eval e X.env := by rfl) : DE X E (.Attribute e f pos) (e1 (fldI ok f) fe) := by
  obtain ⟨te, e1, e2⟩ := he
  refine ⟨_, pe_fld e1 hb, fun σ τ R H Q hs s h => e2 σ τ R H _ hs s (post_bind s h fun d v R1 H1 x1 q1 k1 => ?_)⟩
  rcases fldI_inv (ok := ok) (f := f) (d := d) with z | ⟨y, kvs, e, rfl, h1, h2, z⟩
  · rw [z] at k1; exact k1.elim
  · rw [z] at k1
    obtain ⟨a, C, dx, fs, rfl, m1, m2, rf⟩ := ins_inv q1
    obtain ⟨c, n⟩ := T y C h1 m1
    obtain ⟨u, l, r⟩ := rf.look h2
    exact ⟨a, C, dx, fs, u, rfl, x1.sub _ _ m2, c, n, l, Post.now x1.sub r k1⟩
end
def methG {α : Type} (m : Str) (tbl : List (Str × (List D → Res D))) (o : D) (k : (List D → Res D) → Res α) : Res α := match o with
  | .dict ((.bool true, .str y) :: kvs) => match tbl.lookup y, lkF m kvs with
    | some F, none => k F
    | _, _ => .stuck
  | _ => .stuck
def eMeth (m : Str) (tbl : List (Str × (List D → Res D))) (fo : DS → Res D) (ga : DS → Res (List D)) : DS → Res D := fun σ => (fo σ).bind fun o => methG m tbl o fun F => (ga σ).bind fun ds => F (o :: ds)
def eMeth0 (m : Str) (tbl : List (Str × (List D → Res D))) (fo : DS → Res D) : DS → Res D := fun σ => (fo σ).bind fun o => methG m tbl o fun F => F [o]
theorem methG_inv {α : Type} {m : Str} {tbl : List (Str × (List D → Res D))} {o : D} (k : (List D → Res D) → Res α) : methG m tbl o k = .stuck ∨ ∃ y kvs F, o = .dict ((.bool true, .str y) :: kvs) ∧ tbl.lookup y = some F ∧ lkF m kvs = none ∧ methG m tbl o k = k F := by
  unfold methG
  split
  · rename_i y kvs
    cases h1 : tbl.lookup y with
    | none => exact .inl rfl
    | some F =>
      cases h2 : lkF m kvs with
      | some e => exact .inl rfl
      | none => exact .inr ⟨y, kvs, F, rfl, h1, h2, rfl⟩
  · exact .inl rfl
structure MEnt (X : Cx) (E : L2.St → XK) (m : Str) (C : Addr) (sp : Sp) : Prop where
  ex : ∃ (k : Nat) (f : Addr) (fd : FuncData) (ps : List Str), Cls X.K C ∧ Meth X.K C m f ∧ FnOk X.prog X.w X.K X.mg X.base (L2.CX X.prog X.w) k f fd ps sp ∧ Room k X.A ∧ Binds X.K fd ps [] ∧ ∀ σ, PassesAt (L2.CX X.prog X.w) X σ (E σ)
def tMethT (X : Cx) (m : Str) (E : L2.St → XK) (ta : TE) (t : TA) : TE := fun σ H Q => ta σ H fun x H1 => ∃ a C dx fs sp, x = .ref a ∧ H1 a = some (.ins C dx fs) ∧ fs.lookup m = none ∧ MEnt X E m C sp ∧ t σ H1 fun vs H2 => sp (x :: vs) H2 Q (E σ)
section
variable {X : Cx} {o e : Expr} {es : List Expr} {m : Str} {apos pos : Pos} {E : L2.St → XK} {ta : TE} {t : TA}
theorem pe_methT {pl : Sem Bool} (he : PE X o ta) (ha : PA X (e :: es) t)
    (ht : eval (.Call (.Attribute o m apos) (e :: es) [] pos) X.env = (do
      let ov ← eval o X.env
      standAt apos.atName
      let (f, first) ← holding [ov] (getMethod ov m pl)
      callWith pos f first (backTo pos (starEach (e :: es) X.env)) (backToKw pos (keywordEach [] X.env))) := by rfl)
    (hst : starEach (e :: es) X.env = (false, eval e X.env) :: starEach es X.env := by rfl) (hpl : (backTo pos (starEach es X.env)).any (·.1) = false := by rfl) :
    PE X (.Call (.Attribute o m apos) (e :: es) [] pos) (tMethT X m E ta t) := by
  refine ⟨fun pins s σ H Q I h => ?_⟩
  refine PySem.W.methodCall_KW (pl := pl) (thn (he.run pins s σ H _ I h) fun u s1 ⟨x, H1, I1, rx, a, C, dx, fs, sp, ex, ea, l, ⟨k, f, fd, ps, c, hm, F, hr, hb, hx⟩, q⟩ => ?_) ht
  subst ex
  obtain rfl : u = Value.ref a := rx
  refine getmeth_ok I1 ea c hm l ?_
  refine PySem.W.callWith_K (first := [.ref a]) (h₀ := X.base) I.ok.mod.kin hm.kp (thn (ha.run pos pins s1 σ H1 _ I1 q) fun us s2 ⟨vs, H2, I2, r, q2⟩ => ⟨I2.kIn, ?_⟩) hst hpl
  exact run_fnS (us := .ref a :: us) (vs := .ref a :: vs) F hr hb (hx σ) I2 (.cons rfl r) q2
theorem pe_methT0 {pl : Sem Bool} (he : PE X o ta)
    (ht : eval (.Call (.Attribute o m apos) [] [] pos) X.env = (do
      let ov ← eval o X.env
      standAt apos.atName
      let (f, first) ← holding [ov] (getMethod ov m pl)
      callWith pos f first (backTo pos (starEach [] X.env)) (backToKw pos (keywordEach [] X.env))) := by rfl) :
    PE X (.Call (.Attribute o m apos) [] [] pos) (tMethT X m E ta tNil) := by
  refine ⟨fun pins s σ H Q I h => ?_⟩
  refine PySem.W.methodCall_KW (pl := pl) (thn (he.run pins s σ H _ I h) fun u s1 ⟨x, H1, I1, rx, a, C, dx, fs, sp, ex, ea, l, ⟨k, f, fd, ps, c, hm, F, hr, hb, hx⟩, q⟩ => ?_) ht
  subst ex
  obtain rfl : u = Value.ref a := rx
  refine getmeth_ok I1 ea c hm l ?_
  exact PySem.W.callWith_K0 (first := [.ref a]) I1.kIn hm.kp (run_fnS (us := [.ref a]) (vs := [.ref a]) F hr hb (hx σ) I1 (.cons rfl .nil) q)
end
inductive MTab (X : Cx) (S : Nat → (List D → Res D) → Sp) (m : Str) : List (Str × (List D → Res D)) → Prop
  | nil : MTab X S m []
  | cons {y : Str} {C : Addr} {k : Nat} {f : Addr} {fd : FuncData} {ps : List Str} {F : List D → Res D} {tbl : List (Str × (List D → Res D))} : PySem.W.nsIn X.K mainGlobals y = some (some (.ref C)) → Cls X.K C → Meth X.K C m f →
      FnOk X.prog X.w X.K X.mg X.base (L2.CX X.prog X.w) k f fd ps (S ps.length F) → Room k X.A → Binds X.K fd ps [] → (∀ ds, ds.length ≠ ps.length → F ds = .stuck) → MTab X S m tbl → MTab X S m ((y, F) :: tbl)
theorem MTab.get {X : Cx} {S : Nat → (List D → Res D) → Sp} {m y : Str} {tbl : List (Str × (List D → Res D))} {F : List D → Res D} (T : MTab X S m tbl) (h : tbl.lookup y = some F) :
    ∃ C k f fd ps, PySem.W.nsIn X.K mainGlobals y = some (some (.ref C)) ∧ Cls X.K C ∧ Meth X.K C m f ∧ FnOk X.prog X.w X.K X.mg X.base (L2.CX X.prog X.w) k f fd ps (S ps.length F) ∧ Room k X.A ∧ Binds X.K fd ps [] ∧ ∀ ds, ds.length ≠ ps.length → F ds = .stuck := by
  induction T with
  | nil => cases h
  | @cons y' C k f fd ps F' tbl n c k1 G hr hb hF _ ih =>
    rw [List.lookup_cons] at h
    cases hb' : y == y' with
    | true =>
      rw [hb'] at h
      cases h
      have e : y = y' := by simpa using hb'
      subst e
      exact ⟨C, k, f, fd, ps, n, c, k1, G, hr, hb, hF⟩
    | false => rw [hb'] at h; exact ih h
section
variable {X : Cx} {E : WX} {o e : Expr} {es : List Expr} {m : Str} {apos pos : Pos} {fo : DS → Res D} {ga : DS → Res (List D)} {tbl : List (Str × (List D → Res D))}
theorem de_meth {pl : Sem Bool} (T : MTab X (spD X.K X.mg) m tbl) (tk : Takes X E) (ho : DE X E o fo) (ha : DA X E (e :: es) ga)
    (ht : eval (.Call (.Attribute o m apos) (e :: es) [] pos) X.env = (do
      let ov ← eval o X.env
      standAt apos.atName
      let (f, first) ← holding [ov] (getMethod ov m pl)
      callWith pos f first (backTo pos (starEach (e :: es) X.env)) (backToKw pos (keywordEach [] X.env))) := by rfl)
    (hst : starEach (e :: es) X.env = (false, eval e X.env) :: starEach es X.env := by rfl) (hpl : (backTo pos (starEach es X.env)).any (·.1) = false := by rfl) :
    DE X E (.Call (.Attribute o m apos) (e :: es) [] pos) (eMeth m tbl fo ga) := by
  obtain ⟨to, o1, o2⟩ := ho
  obtain ⟨t, a1, a2⟩ := ha
  refine ⟨_, pe_methT (E := fun σ c d H => E c d σ H) o1 a1 ht hst hpl, fun σ τ R H Q hs s h => o2 σ τ R H _ hs s (post_bind s h fun ob v R1 H1 x1 q1 k1 => ?_)⟩
  rcases methG_inv (m := m) (tbl := tbl) (o := ob) (fun F => (ga σ).bind fun ds => F (ob :: ds)) with z | ⟨y, kvs, F, rfl, h1, h2, z⟩
  · rw [z] at k1; exact k1.elim
  · rw [z] at k1
    obtain ⟨a, C, dx, fs, rfl, m1, m2, rf⟩ := ins_inv q1
    obtain ⟨C', k, f, fd, ps, n, c, k2, G, hr, hb, hF⟩ := T.get h1
    rw [m1] at n
    cases n
    refine ⟨a, C, dx, fs, _, rfl, x1.sub _ _ m2, rf.lookN h2, ⟨k, f, fd, ps, c, k2, G, hr, hb, fun σ => passAt tk σ⟩, ?_⟩
    refine a2 σ τ R1 H1 _ (hs.mono x1.rr) x1.sub (post_bind x1.sub k1 fun ds vs R2 H2 x2 q2 k3 => ?_)
    have q3 := RpA.cons (q1.mono x2.rr) q2
    refine ⟨?_, R2, _, x2.sub, q3, k3⟩
    by_cases hl : (PyData.dict ((.bool true, .str y) :: kvs) :: ds).length = ps.length
    · rw [q3.length]; exact hl
    · rw [hF _ hl] at k3; exact k3.elim
theorem de_meth0 {pl : Sem Bool} (T : MTab X (spD X.K X.mg) m tbl) (tk : Takes X E) (ho : DE X E o fo)
    (ht : eval (.Call (.Attribute o m apos) [] [] pos) X.env = (do
      let ov ← eval o X.env
      standAt apos.atName
      let (f, first) ← holding [ov] (getMethod ov m pl)
      callWith pos f first (backTo pos (starEach [] X.env)) (backToKw pos (keywordEach [] X.env))) := by rfl) :
    DE X E (.Call (.Attribute o m apos) [] [] pos) (eMeth0 m tbl fo) := by
  obtain ⟨to, o1, o2⟩ := ho
  refine ⟨_, pe_methT0 (E := fun σ c d H => E c d σ H) o1 ht, fun σ τ R H Q hs s h => o2 σ τ R H _ hs s (post_bind s h fun ob v R1 H1 x1 q1 k1 => ?_)⟩
  rcases methG_inv (m := m) (tbl := tbl) (o := ob) (fun F => F [ob]) with z | ⟨y, kvs, F, rfl, h1, h2, z⟩
  · rw [z] at k1; exact k1.elim
  · rw [z] at k1
    obtain ⟨a, C, dx, fs, rfl, m1, m2, rf⟩ := ins_inv q1
    obtain ⟨C', k, f, fd, ps, n, c, k2, G, hr, hb, hF⟩ := T.get h1
    rw [m1] at n
    cases n
    refine ⟨a, C, dx, fs, _, rfl, x1.sub _ _ m2, rf.lookN h2, ⟨k, f, fd, ps, c, k2, G, hr, hb, fun σ => passAt tk σ⟩, ?_⟩
    refine ⟨?_, R1, _, x1.sub, .cons q1 .nil, k1⟩
    by_cases hl : ([PyData.dict ((.bool true, .str y) :: kvs)] : List D).length = ps.length
    · exact hl
    · rw [hF _ hl] at k1; exact k1.elim
theorem dn_meth0 {pl : Sem Bool} (T : MTab X (spN X.K X.mg) m tbl) (tk : Takes X E) (ho : DE X E o fo)
    (ht : eval (.Call (.Attribute o m apos) [] [] pos) X.env = (do
      let ov ← eval o X.env
      standAt apos.atName
      let (f, first) ← holding [ov] (getMethod ov m pl)
      callWith pos f first (backTo pos (starEach [] X.env)) (backToKw pos (keywordEach [] X.env))) := by rfl) :
    DN X E (.Call (.Attribute o m apos) [] [] pos) (eMeth0 m tbl fo) := by
  obtain ⟨to, o1, o2⟩ := ho
  refine ⟨_, pe_methT0 (E := fun σ c d H => E c d σ H) o1 ht, fun σ τ R H Q hs s h => o2 σ τ R H _ hs s (post_bindN h fun ob v R1 H1 x1 q1 k1 => ?_)⟩
  rcases methG_inv (m := m) (tbl := tbl) (o := ob) (fun F => F [ob]) with z | ⟨y, kvs, F, rfl, h1, h2, z⟩
  · rw [z] at k1; exact k1.elim
  · rw [z] at k1
    obtain ⟨a, C, dx, fs, rfl, m1, m2, rf⟩ := ins_inv q1
    obtain ⟨C', k, f, fd, ps, n, c, k2, G, hr, hb, hF⟩ := T.get h1
    rw [m1] at n
    cases n
    refine ⟨a, C, dx, fs, _, rfl, x1.sub _ _ m2, rf.lookN h2, ⟨k, f, fd, ps, c, k2, G, hr, hb, fun σ => passAt tk σ⟩, ?_⟩
    refine ⟨?_, R1, _, x1.sub, .cons q1 .nil, k1⟩
    by_cases hl : ([PyData.dict ((.bool true, .str y) :: kvs)] : List D).length = ps.length
    · exact hl
    · rw [hF _ hl] at k1; exact k1.elim
end
def tMakeO (C : Addr) : TE := fun _ H Q => ∀ x dx, H x = none → H dx = none → dx ≠ x → Q (.ref x) (upd (upd H dx (.own x)) x (.ins C dx []))
structure MkO (K : PySem.W.Frag) (C : Addr) : Prop where
  makes : PySem.W.makesIn K C = true
  init : PySem.W.findIn K (.ref C) "__init__" = some (some (.builtin "object.__init__"))
  kp : PySem.W.keepIn K (.ref C) = true
section
variable {X : Cx} {E : WX} {x : Str} {p pos : Pos} {C f : Addr} {e : Expr} {es : List Expr}
open PySem.W in
theorem pe_makeO (M : MkO X.K C) (hg : Gl X x) (hm : X.mg x = some (.ref C)) (hdb : (x == ("__debug__" : Str)) = false := by decide) : PE X (.Call (.Name x p) [] [] pos) (tMakeO C) := by
  refine ⟨fun pins s σ H Q I h => ?_⟩
  refine wpAny_Call_Name_kw (ld_glob I hg hm ?_ hdb)
  refine PySem.W.callWith_K0 I.kIn M.kp ?_
  have hq := h (s.heap.objs.size + 1) s.heap.objs.size (I.hok.fresh (Nat.le_succ _)) (I.hok.fresh (Nat.le_refl _)) (Nat.ne_of_lt (Nat.lt_succ_self _))
  have I2 := Inv.made (C := C) I
  have hX := I.kIn
  refine wpAny_call (make_map0 hX M.makes M.init (fun self => Looks.of_pure (oi_bind self)) ?_)
  obtain ⟨hh, g, d, t, os⟩ := s
  dsimp only at hq I2 hX ⊢
  have Y := makes_of (M := model X.prog X.w) hX M.makes
  have e2 : ((hh.push emptyDict).push (instObj C hh.objs.size)).get? (hh.objs.size + 1) = some (instObj C hh.objs.size) := by
    have := Heap.get?_push_size (hh.push emptyDict) (o := instObj C hh.objs.size) rfl
    rwa [Heap.size_push] at this
  have t1 : Looks (model X.prog X.w) ((hh.push emptyDict).push (instObj C hh.objs.size)) (typeOf (.ref (hh.objs.size + 1))) (.ref C) := (Looks.ld e2).andThen .now
  have t2 : Looks (model X.prog X.w) ((hh.push emptyDict).push (instObj C hh.objs.size)) (isInstance (.ref (hh.objs.size + 1)) (.type "object")) true := t1.andThen (Y.top.keeps fun b o e => Heap.get?_push_of_some _ (Heap.get?_push_of_some _ e))
  refine codeAny_call_builtin oi_plain entry_oi (@check_slot (model X.prog X.w) _ _ _ "object.__init__" "object" "__init__" (.ref (hh.objs.size + 1)) [] [] _ oi_kind oi_split t2 (oi_args (.ref (hh.objs.size + 1))) ?_)
  rw [oi_run]
  exact wpAny_pure (And.intro rfl ⟨V.ref (hh.objs.size + 1), _, I2, rfl, hq⟩)
theorem Ext.ins {R H : Hp} {a dx : Addr} {fs : List (Str × V)} (s : Same R H) (h1 : H a = none) (h2 : H dx = none) (ne : dx ≠ a) : Ext R H (upd R a (.ins C dx fs)) (upd (upd H dx (.own a)) a (.ins C dx fs)) := by
  have x1 : Ext R H R (upd H dx (.own a)) := Ext.allocH s h2
  have ha : upd H dx (.own a) a = none := by rw [upd_ne (Ne.symm ne)]; exact h1
  exact x1.trans (Ext.alloc x1.sub ha)
theorem de_mkO (M : MkO X.K C) (hn : PySem.W.nsIn X.K mainGlobals x = some (some (.ref C))) (hg : Gl X x) (hm : X.mg x = some (.ref C)) (hdb : (x == ("__debug__" : Str)) = false := by decide) : DE X E (.Call (.Name x p) [] [] pos) (eC (.dict [(.bool true, .str x)])) := by
  refine ⟨_, pe_makeO M hg hm hdb, fun σ τ R H Q hs s h a dx h1 h2 ne => ?_⟩
  exact h (.ref a) _ _ (Ext.ins s h1 h2 ne) (.ob (.ins hn upd_same) .nil)
end
def spK2 (C : Addr) (f1 f2 : Str) : Sp := fun vs H Q _ => ∃ (a dx : Addr) (v1 v2 : V), vs = [.ref a, v1, v2] ∧ H a = some (.ins C dx []) ∧ Q .non (upd H a (.ins C dx [(f1, v1), (f2, v2)]))
section
variable {P : Program} {w : World} {K : PySem.W.Frag} {mg : Str → Option Value} {base : Heap}
theorem fn_mk2 {qual : Str} {st : Stmt} {f C : Addr} {fd : FuncData} {p1 p2 f1 f2 : Str} (F : Fun K "__init__" qual st f fd) (S : FnScope ["self", p1, p2] ["self", p1, p2] (defScope st)) (c : Cls K C) (n1 : NoAttr K C f1) (n2 : NoAttr K C f2) (ne : f1 ≠ f2)
    (hb : ∀ (cdv : Value) (A : Around) (outer : List Env) (s : Shared) (H : Hp) (Ex : XK), PSs (cxOf (L2.CX P w) P w K mg base ["self", p1, p2] qual (defScope st) f cdv A outer s H Ex) (defBody st) (tSeq (sFld K (tVar 0) (tVar 1) f1) (sFld K (tVar 0) (tVar 2) f2))) :
    FnOk P w K mg base (L2.CX P w) 1 f fd ["self", p1, p2] (spK2 C f1 f2) := by
  refine F.okX (k := 0) S (fun vs H Q Ex h => ?_) (fun cdv A outer s H vs Q Ex hr h => ?_)
  · obtain ⟨a, dx, v1, v2, rfl, _⟩ := h
    rfl
  · obtain ⟨a, dx, v1, v2, rfl, ea, q⟩ := h
    refine ⟨_, hb cdv A outer s H Ex, ?_⟩
    refine ⟨v1, rfl, .ref a, rfl, a, C, dx, [], rfl, ea, c, n1, by decide, ?_⟩
    refine ⟨v2, rfl, .ref a, rfl, a, C, dx, [(f1, v1)], rfl, upd_same, c, n2, by show 1 < 1000; decide, ?_⟩
    show Q .non (upd (upd H a (.ins C dx [(f1, v1)])) a (.ins C dx (putF f2 v2 [(f1, v1)])))
    rw [upd_upd, show putF f2 v2 [(f1, v1)] = [(f1, v1), (f2, v2)] from by unfold putF; rw [if_neg ne]; rfl]
    exact q
end
def mk2R (x f1 f2 : Str) : List D → Res D
  | [a, b] => .ok (.dict [(.bool true, .str x), (.str f1, a), (.str f2, b)])
  | _ => .stuck
def eMk2 (x f1 f2 : Str) (ga : DS → Res (List D)) : DS → Res D := fun σ => (ga σ).bind (mk2R x f1 f2)
section
variable {X : Cx} {E : WX} {x f1 f2 p1 p2 : Str} {p pos : Pos} {C f : Addr} {fd : FuncData} {e : Expr} {es : List Expr} {ga : DS → Res (List D)}
theorem de_mk2 (M : Mk X.K C f) (F : FnOk X.prog X.w X.K X.mg X.base (L2.CX X.prog X.w) 1 f fd ["self", p1, p2] (spK2 C f1 f2)) (hr : Room 2 X.A) (hb : Binds X.K fd ["self", p1, p2] []) (hn : PySem.W.nsIn X.K mainGlobals x = some (some (.ref C))) (hg : Gl X x) (hm : X.mg x = some (.ref C)) (ha : DA X E (e :: es) ga)
    (hdb : (x == ("__debug__" : Str)) = false := by decide) (he : starEach (e :: es) X.env = (false, eval e X.env) :: starEach es X.env := by rfl) (hpl : (backTo pos (starEach es X.env)).any (·.1) = false := by rfl) :
    DE X E (.Call (.Name x p) (e :: es) [] pos) (eMk2 x f1 f2 ga) := by
  obtain ⟨t, a1, a2⟩ := ha
  have hx : Passes (L2.CX X.prog X.w) X (fun _ _ _ => False) := fun pins σ H s e s' I c => by
    obtain ⟨_, _, _, _, _, _, _, _, _, _, _, _, z⟩ := c
    exact z.elim
  refine ⟨_, pe_make (dvs := []) M F hr hg hm hb .nil hx a1 hdb he hpl, fun σ τ R H Q hs s h => a2 σ τ R H _ hs s (post_bind s h fun ds vs R1 H1 x1 q1 k1 => ?_)⟩
  match ds, vs, q1, k1 with
  | [], _, _, k1 => exact k1.elim
  | [_], _, _, k1 => exact k1.elim
  | _ :: _ :: _ :: _, _, _, k1 => exact k1.elim
  | [da, db], _, .cons (v := va) ra (.cons (v := vb) rb .nil), k1 =>
    intro a dx h1 h2 ne
    refine ⟨a, dx, va, vb, rfl, upd_same, rfl, ?_⟩
    rw [upd_upd]
    have k2 : Post X.K X.mg (xat E τ) (rV X.K) R1 H1 Q (.ok (.dict [(.bool true, .str x), (.str f1, da), (.str f2, db)])) := k1
    have x2 := Ext.ins (C := C) (fs := [(f1, va), (f2, vb)]) x1.sub h1 h2 ne
    exact k2 (.ref a) _ _ x2 (.ob (.ins hn upd_same) (.cons (ra.mono x2.rr) (.cons (rb.mono x2.rr) .nil)))
end
structure InsC (K : PySem.W.Frag) (C : Addr) : Prop where
  cl : Cls K C
  ha : PySem.W.findIn K (.ref C) "__class__" = some (some (.builtin "object.__class__"))
  hn : PySem.W.specialIn K (.builtin "object.__class__") "__get__" = some (some (.builtin "getset_descriptor.__get__"))
  ht : PySem.W.takesIn K (.builtin "object.__class__") = some true
  hm : PySem.W.mroIn K C (.type "object") = some true
def isaI (rel : Str → Option Bool) : D → Res D
  | .dict ((.bool true, .str y) :: _) => match rel y with
    | some b => .ok (.bool b)
    | none => .stuck
  | _ => .stuck
theorem isaI_inv {rel : Str → Option Bool} {d : D} : isaI rel d = .stuck ∨ ∃ y kvs b, d = .dict ((.bool true, .str y) :: kvs) ∧ rel y = some b ∧ isaI rel d = .ok (.bool b) := by
  unfold isaI
  split
  · rename_i y kvs
    cases h1 : rel y with
    | none => exact .inl rfl
    | some b => exact .inr ⟨y, kvs, b, rfl, h1, rfl⟩
  · exact .inl rfl
def IsaI (K : PySem.W.Frag) (kit : Value → Option Bool) (rel : Str → Option Bool) : Prop := ∀ y b, rel y = some b → ∃ C, PySem.W.nsIn K mainGlobals y = some (some (.ref C)) ∧ InsC K C ∧ kit (.ref C) = some b
section
variable {X : Cx} {E : WX} {e : Expr} {f : DS → Res D} {pos p p2 : Pos} {x : Str}
theorem de_isaI {c : V} {u : Value} {rel : Str → Option Bool} (F : IsaI X.K (fun t => PySem.W.kitOne X.K t u) rel) (n : Names X x u) (k : ClsV c u) (hc : X.mg "isinstance" = none) (hg : Gl X "isinstance") (he : DE X E e f)
    (h1 : starEach [e, .Name x p2] X.env = (false, eval e X.env) :: starEach [.Name x p2] X.env := by rfl) (h2 : starEach [.Name x p2] X.env = (false, eval (.Name x p2) X.env) :: starEach [] X.env := by rfl)
    (hpl : (backTo pos (starEach [.Name x p2] X.env)).any (·.1) = false := by rfl) : DE X E (.Call (.Name "isinstance" p) [e, .Name x p2] [] pos) (e1 (isaI rel) f) := by
  obtain ⟨t, a1, a2⟩ := he
  refine ⟨_, pe_callB call_isO hg hc boot_isinstance (pa_cons a1 (pa_cons (pe_cls n k) pa_nil h2) h1) (by decide) (by decide) h1 hpl, fun σ τ R H Q hs s h => a2 σ τ R H _ hs s (post_bind s h fun d v R1 H1 x1 q1 k1 => ?_)⟩
  rcases isaI_inv (rel := rel) (d := d) with z | ⟨y, kvs, b, rfl, h3, z⟩
  · rw [z] at k1; exact k1.elim
  · rw [z] at k1
    obtain ⟨a, C, dx, fs, rfl, m1, m2, rf⟩ := ins_inv q1
    obtain ⟨C', n', ic, kt⟩ := F y b h3
    rw [m1] at n'
    cases n'
    exact ⟨_, c, .ref C, u, b, rfl, k, .inl (.base (.ins (x1.sub _ _ m2) ic.cl ic.ha ic.hn ic.ht ic.hm)), kt, Post.now x1.sub (Rp.bl _) k1⟩
theorem de_isaIT {es : List Expr} {k1 : Nat} {cs : List V} {us : List Value} {rel : Str → Option Bool} (F : IsaI X.K (fun t => PySem.W.kitAny X.K t us) rel) (n : ClsA X es cs us) (hl : us.length ≤ 1000) (hc : X.mg "isinstance" = none) (hg : Gl X "isinstance") (he : DE X E e f)
    (h1 : starEach [e, .Tuple es k1 p2] X.env = (false, eval e X.env) :: starEach [.Tuple es k1 p2] X.env := by rfl) (h2 : starEach [.Tuple es k1 p2] X.env = (false, eval (.Tuple es k1 p2) X.env) :: starEach [] X.env := by rfl)
    (hpl : (backTo pos (starEach [.Tuple es k1 p2] X.env)).any (·.1) = false := by rfl) : DE X E (.Call (.Name "isinstance" p) [e, .Tuple es k1 p2] [] pos) (e1 (isaI rel) f) := by
  obtain ⟨t, a1, a2⟩ := he
  obtain ⟨⟨tc, c1, c2⟩, pr⟩ := n.pa
  refine ⟨_, pe_callB call_isOT hg hc boot_isinstance (pa_cons a1 (pa_cons (pe_tup c1) pa_nil h2) h1) (by decide) (by decide) h1 hpl, fun σ τ R H Q hs s h => a2 σ τ R H _ hs s (post_bind s h fun d v R1 H1 x1 q1 k1 => ?_)⟩
  refine c2 _ _ _ ⟨?_, fun tp htp => ?_⟩
  · rw [Paired.length pr, sizeLine_eq]; omega
  · have e2 : Ext R1 H1 R1 (upd H1 tp (.tup cs)) := Ext.allocH x1.sub htp
    rcases isaI_inv (rel := rel) (d := d) with z | ⟨y, kvs, b, rfl, h3, z⟩
    · rw [z] at k1; exact k1.elim
    · rw [z] at k1
      obtain ⟨a, C, dx, fs, rfl, m1, m2, rf⟩ := ins_inv q1
      obtain ⟨C', n', ic, kt⟩ := F y b h3
      rw [m1] at n'
      cases n'
      exact ⟨_, tp, cs, .ref C, us, b, rfl, upd_same, pr, .inl (.base (.ins (e2.sub _ _ m2) ic.cl ic.ha ic.hn ic.ht ic.hm)), kt, Post.now e2.sub (Rp.bl _) (k1.step e2)⟩
end
end E3
namespace E3
open PySem PySem.Spec PyProof.Rows L2
theorem insok_nil {K : PySem.W.Frag} {f : Str} : InsOk K f (fun _ => false) := fun _ _ h _ => nomatch h
theorem insok_cons {K : PySem.W.Frag} {f x : Str} {C : Addr} {ok : Str → Bool} (n : PySem.W.nsIn K mainGlobals x = some (some (.ref C))) (c : Cls K C) (a : NoAttr K C f) (h : InsOk K f ok) : InsOk K f (fun y => y == x || ok y) := fun y C' h1 h2 => by
  cases hb : y == x with
  | true =>
    have e : y = x := by simpa using hb
    subst e
    rw [n] at h2
    cases h2
    exact ⟨c, a⟩
  | false =>
    have h3 : ok y = true := by simpa [hb] using h1
    exact h y C' h3 h2
theorem isi_nil {K : PySem.W.Frag} {kit : Value → Option Bool} : IsaI K kit (fun y => (([] : List (Str × Bool))).lookup y) := fun _ _ h => nomatch h
theorem isi_cons {K : PySem.W.Frag} {kit : Value → Option Bool} {x : Str} {b : Bool} {C : Addr} {l : List (Str × Bool)} (n : PySem.W.nsIn K mainGlobals x = some (some (.ref C))) (c : InsC K C) (k : kit (.ref C) = some b) (h : IsaI K kit (fun y => l.lookup y)) : IsaI K kit (fun y => ((x, b) :: l).lookup y) := fun y r e => by
  change List.lookup y ((x, b) :: l) = some r at e
  rw [List.lookup_cons] at e
  cases hb : y == x with
  | true =>
    rw [hb] at e
    have e2 : y = x := by simpa using hb
    subst e2
    cases e
    exact ⟨C, n, c, k⟩
  | false => rw [hb] at e; exact h y r e
end E3

namespace E3
open PySem PySem.Spec PyProof.Rows L2
section
variable {X : Cx} {E : WX} {a b e : Expr} {pos : Pos} {f : SS → XR D} {p q : SS → XR Bool} {rest : List Expr}
def xOr (p q : SS → XR Bool) : SS → XR Bool := fun σ => (p σ).bind fun b σ => if b then .ok true σ else q σ
def xNot (p : SS → XR Bool) : SS → XR Bool := fun σ => (p σ).bind fun b σ => .ok (!b) σ
theorem xw_or1 (ha : XT X E a p) : XW X E (.BoolOp .Or [a] pos) p := by
  obtain ⟨t, h1, h2⟩ := ha
  exact ⟨t, pw_or1 h1, h2⟩
theorem xw_or (ha : XT X E a p) (hb : XW X E (.BoolOp .Or (b :: rest) pos) q) : XW X E (.BoolOp .Or (a :: b :: rest) pos) (xOr p q) := by
  obtain ⟨t, h1, h2⟩ := ha
  obtain ⟨u, h3, h4⟩ := hb
  refine ⟨_, pw_or h1 h3, fun R0 H0 σ τ R H Q I h => h2 R0 H0 σ τ R H _ I (xbind (rel := rB) h fun x v σ1 R1 H1 s1 I1 q1 k => ?_)⟩
  subst q1
  cases v with
  | false => exact h4 R0 H0 σ1 τ R1 H1 Q I1 k
  | true => exact xnow I1 (rel := rB) rfl k
theorem xt_not (ha : XT X E a p) : XT X E (.UnaryOp .Not a pos) (xNot p) := by
  obtain ⟨t, h1, h2⟩ := ha
  refine ⟨_, pt_not h1, fun R0 H0 σ τ R H Q I h => h2 R0 H0 σ τ R H _ I (xbind (rel := rB) h fun x v σ1 R1 H1 s1 I1 q1 k => ?_)⟩
  subst q1
  exact xnow I1 (rel := rB) rfl k
theorem xt_val (ha : XE X E a f) (he : ∀ whole, isTrue a X.env whole = (do let v ← whole; standAt a.pos; holding [v] (truthy v)) := by intro _; rfl) : XT X E a (xTB f) := by
  obtain ⟨ta, pa, qa⟩ := ha
  exact ⟨_, pt_val pa he, fun R0 H0 σ τ R H Q I h => qa R0 H0 σ τ R H _ I (xbind h fun x v σ1 R1 H1 s1 I1 q1 h1 => asB_run q1 I1.ext.sub (xof I1 h1))⟩
end
end E3

namespace K38
open PySem PySem.Spec PyProof.Rows L2 E3

def topS (i : Nat) : Stmt := PySem.Challenge.pw_edgemoss_k38_leaves_and_moves.main.body.getD i (.Pass ⟨0, 0, 0, 0⟩)
def clsS (i j : Nat) : Stmt := match topS i with
  | .ClassDef _ _ _ b _ _ _ _ _ _ _ => b.getD j (.Pass ⟨0, 0, 0, 0⟩)
  | _ => .Pass ⟨0, 0, 0, 0⟩
abbrev s_law_take : Stmt := topS 21
theorem sc_law_take : FnScope ["pot", "many", "digit"] ["pot", "many"] (defScope s_law_take) := ⟨rfl, rfl, rfl, by decide +kernel, rfl, by decide +kernel, by decide +kernel⟩
abbrev s_law_shape : Stmt := topS 22
theorem sc_law_shape : FnScope ["pot", "many", "wide", "row", "column", "cells", "k", "place"] ["pot"] (defScope s_law_shape) := ⟨rfl, rfl, rfl, by decide +kernel, rfl, by decide +kernel, by decide +kernel⟩
abbrev s_law_step : Stmt := topS 23
theorem sc_law_step : FnScope ["pot", "far", "row"] ["pot"] (defScope s_law_step) := ⟨rfl, rfl, rfl, by decide +kernel, rfl, by decide +kernel, by decide +kernel⟩
abbrev s_law_deal : Stmt := topS 20
theorem sc_law_deal : FnScope ["cell", "many", "number", "one", "k", "two"] ["cell", "many"] (defScope s_law_deal) := ⟨rfl, rfl, rfl, by decide +kernel, rfl, by decide +kernel, by decide +kernel⟩
abbrev s_law_same : Stmt := topS 25
theorem sc_law_same : FnScope ["found", "due", "one", "other"] ["found", "due"] (defScope s_law_same) := ⟨rfl, rfl, rfl, by decide +kernel, rfl, by decide +kernel, by decide +kernel⟩
abbrev s_Plan_made : Stmt := clsS 13 0
theorem sc_Plan_made : FnScope ["self", "shape"] ["self", "shape"] (defScope s_Plan_made) := ⟨rfl, rfl, rfl, by decide +kernel, rfl, by decide +kernel, by decide +kernel⟩
abbrev s_Nothing_made : Stmt := clsS 15 0
theorem sc_Nothing_made : FnScope ["self", "shape"] ["self", "shape"] (defScope s_Nothing_made) := ⟨rfl, rfl, rfl, by decide +kernel, rfl, by decide +kernel, by decide +kernel⟩
abbrev s_Everything_made : Stmt := clsS 16 0
theorem sc_Everything_made : FnScope ["self", "shape"] ["self", "shape"] (defScope s_Everything_made) := ⟨rfl, rfl, rfl, by decide +kernel, rfl, by decide +kernel, by decide +kernel⟩
abbrev s_moved_cell : Stmt := topS 6
theorem sc_moved_cell : FnScope ["cell", "step"] ["cell", "step"] (defScope s_moved_cell) := ⟨rfl, rfl, rfl, by decide +kernel, rfl, by decide +kernel, by decide +kernel⟩
abbrev s_moved : Stmt := topS 8
theorem sc_moved : FnScope ["shape", "step", "cells", "rest", "cell"] ["shape", "step"] (defScope s_moved) := ⟨rfl, rfl, rfl, by decide +kernel, rfl, by decide +kernel, by decide +kernel⟩
abbrev s_Plan_done : Stmt := clsS 13 1
theorem sc_Plan_done : FnScope ["self", "shape", "told"] ["self", "shape"] (defScope s_Plan_done) := ⟨rfl, rfl, rfl, by decide +kernel, rfl, by decide +kernel, by decide +kernel⟩
abbrev s_Move_made : Stmt := clsS 17 1
theorem sc_Move_made : FnScope ["self", "shape"] ["self", "shape"] (defScope s_Move_made) := ⟨rfl, rfl, rfl, by decide +kernel, rfl, by decide +kernel, by decide +kernel⟩
abbrev s_law_makes : Stmt := topS 27
theorem sc_law_makes : FnScope ["plan", "shapes", "dues", "shape", "due"] ["plan", "shapes", "dues"] (defScope s_law_makes) := ⟨rfl, rfl, rfl, by decide +kernel, rfl, by decide +kernel, by decide +kernel⟩
abbrev s_Plan_parts_in : Stmt := clsS 13 5
theorem sc_Plan_parts_in : FnScope ["self"] ["self"] (defScope s_Plan_parts_in) := ⟨rfl, rfl, rfl, by decide +kernel, rfl, by decide +kernel, by decide +kernel⟩
abbrev s_Move_parts_in : Stmt := clsS 17 5
theorem sc_Move_parts_in : FnScope ["self"] ["self"] (defScope s_Move_parts_in) := ⟨rfl, rfl, rfl, by decide +kernel, rfl, by decide +kernel, by decide +kernel⟩
abbrev s_law_leaf : Stmt := topS 28
theorem sc_law_leaf : FnScope ["plan", "inner"] ["plan"] (defScope s_law_leaf) := ⟨rfl, rfl, rfl, by decide +kernel, rfl, by decide +kernel, by decide +kernel⟩
abbrev s_law_leaves : Stmt := topS 29
theorem sc_law_leaves : FnScope ["shapes", "keep", "nothing", "everything"] ["shapes"] (defScope s_law_leaves) := ⟨rfl, rfl, rfl, by decide +kernel, rfl, by decide +kernel, by decide +kernel⟩
abbrev s_law_moved : Stmt := topS 26
theorem sc_law_moved : FnScope ["shape", "step", "row", "column"] ["shape", "step"] (defScope s_law_moved) := ⟨rfl, rfl, rfl, by decide +kernel, rfl, by decide +kernel, by decide +kernel⟩
abbrev s_law_moves : Stmt := topS 30
theorem sc_law_moves : FnScope ["shapes", "step", "other", "once", "twice", "inner", "sum_of", "shape"] ["shapes", "step", "other"] (defScope s_law_moves) := ⟨rfl, rfl, rfl, by decide +kernel, rfl, by decide +kernel, by decide +kernel⟩
abbrev s_law : Stmt := topS 31
theorem sc_law : FnScope ["script", "cell", "pot", "one", "other", "step"] ["script"] (defScope s_law) := ⟨rfl, rfl, rfl, by decide +kernel, rfl, by decide +kernel, by decide +kernel⟩
abbrev si_Move : Stmt := clsS 17 0
theorem sci_Move : FnScope ["self", "step", "plan"] ["self", "step", "plan"] (defScope si_Move) := ⟨rfl, rfl, rfl, by decide +kernel, rfl, by decide +kernel, by decide +kernel⟩
def okf_plan : Str → Bool := fun y => y == "Move" || (false)
def okf_step : Str → Bool := fun y => y == "Move" || (false)
def reli_0 : Str → Option Bool := fun y => ([("Keep", true), ("Nothing", true), ("Everything", true), ("Move", true)] : List (Str × Bool)).lookup y
def reli_1 : Str → Option Bool := fun y => ([("Keep", false), ("Nothing", false), ("Everything", false), ("Move", true)] : List (Str × Bool)).lookup y
def reli_2 : Str → Option Bool := fun y => ([("Keep", false), ("Nothing", true), ("Everything", true), ("Move", false)] : List (Str × Bool)).lookup y
def reli_3 : Str → Option Bool := fun y => ([("Keep", true), ("Nothing", false), ("Everything", true), ("Move", false)] : List (Str × Bool)).lookup y
def reli_4 : Str → Option Bool := fun y => ([("Keep", true), ("Nothing", false), ("Everything", false), ("Move", false)] : List (Str × Bool)).lookup y
def reli_5 : Str → Option Bool := fun y => ([("Keep", true), ("Nothing", true), ("Everything", true), ("Move", false)] : List (Str × Bool)).lookup y
structure Txt (K : PySem.W.Frag) (mg : Str → Option Value) where
  a_law_take : Addr
  d_law_take : FuncData
  F_law_take : Fun K "_law_take" "_law_take" s_law_take a_law_take d_law_take
  g_law_take : mg "_law_take" = some (.ref a_law_take)
  b_law_take : Binds K d_law_take ["pot", "many"] []
  a_law_shape : Addr
  d_law_shape : FuncData
  F_law_shape : Fun K "_law_shape" "_law_shape" s_law_shape a_law_shape d_law_shape
  g_law_shape : mg "_law_shape" = some (.ref a_law_shape)
  b_law_shape : Binds K d_law_shape ["pot"] []
  a_law_step : Addr
  d_law_step : FuncData
  F_law_step : Fun K "_law_step" "_law_step" s_law_step a_law_step d_law_step
  g_law_step : mg "_law_step" = some (.ref a_law_step)
  b_law_step : Binds K d_law_step ["pot"] []
  a_law_deal : Addr
  d_law_deal : FuncData
  F_law_deal : Fun K "_law_deal" "_law_deal" s_law_deal a_law_deal d_law_deal
  g_law_deal : mg "_law_deal" = some (.ref a_law_deal)
  b_law_deal : Binds K d_law_deal ["cell", "many"] []
  a_law_same : Addr
  d_law_same : FuncData
  F_law_same : Fun K "_law_same" "_law_same" s_law_same a_law_same d_law_same
  g_law_same : mg "_law_same" = some (.ref a_law_same)
  b_law_same : Binds K d_law_same ["found", "due"] []
  a_Plan_made : Addr
  d_Plan_made : FuncData
  F_Plan_made : Fun K "made" "Plan.made" s_Plan_made a_Plan_made d_Plan_made
  b_Plan_made : Binds K d_Plan_made ["self", "shape"] []
  a_Nothing_made : Addr
  d_Nothing_made : FuncData
  F_Nothing_made : Fun K "made" "Nothing.made" s_Nothing_made a_Nothing_made d_Nothing_made
  b_Nothing_made : Binds K d_Nothing_made ["self", "shape"] []
  a_Everything_made : Addr
  d_Everything_made : FuncData
  F_Everything_made : Fun K "made" "Everything.made" s_Everything_made a_Everything_made d_Everything_made
  b_Everything_made : Binds K d_Everything_made ["self", "shape"] []
  a_moved_cell : Addr
  d_moved_cell : FuncData
  F_moved_cell : Fun K "moved_cell" "moved_cell" s_moved_cell a_moved_cell d_moved_cell
  g_moved_cell : mg "moved_cell" = some (.ref a_moved_cell)
  b_moved_cell : Binds K d_moved_cell ["cell", "step"] []
  a_moved : Addr
  d_moved : FuncData
  F_moved : Fun K "moved" "moved" s_moved a_moved d_moved
  g_moved : mg "moved" = some (.ref a_moved)
  b_moved : Binds K d_moved ["shape", "step"] []
  a_Plan_done : Addr
  d_Plan_done : FuncData
  F_Plan_done : Fun K "done" "Plan.done" s_Plan_done a_Plan_done d_Plan_done
  b_Plan_done : Binds K d_Plan_done ["self", "shape"] []
  a_Move_made : Addr
  d_Move_made : FuncData
  F_Move_made : Fun K "made" "Move.made" s_Move_made a_Move_made d_Move_made
  b_Move_made : Binds K d_Move_made ["self", "shape"] []
  a_law_makes : Addr
  d_law_makes : FuncData
  F_law_makes : Fun K "_law_makes" "_law_makes" s_law_makes a_law_makes d_law_makes
  g_law_makes : mg "_law_makes" = some (.ref a_law_makes)
  b_law_makes : Binds K d_law_makes ["plan", "shapes", "dues"] []
  a_Plan_parts_in : Addr
  d_Plan_parts_in : FuncData
  F_Plan_parts_in : Fun K "parts_in" "Plan.parts_in" s_Plan_parts_in a_Plan_parts_in d_Plan_parts_in
  b_Plan_parts_in : Binds K d_Plan_parts_in ["self"] []
  a_Move_parts_in : Addr
  d_Move_parts_in : FuncData
  F_Move_parts_in : Fun K "parts_in" "Move.parts_in" s_Move_parts_in a_Move_parts_in d_Move_parts_in
  b_Move_parts_in : Binds K d_Move_parts_in ["self"] []
  a_law_leaf : Addr
  d_law_leaf : FuncData
  F_law_leaf : Fun K "_law_leaf" "_law_leaf" s_law_leaf a_law_leaf d_law_leaf
  g_law_leaf : mg "_law_leaf" = some (.ref a_law_leaf)
  b_law_leaf : Binds K d_law_leaf ["plan"] []
  a_law_leaves : Addr
  d_law_leaves : FuncData
  F_law_leaves : Fun K "_law_leaves" "_law_leaves" s_law_leaves a_law_leaves d_law_leaves
  g_law_leaves : mg "_law_leaves" = some (.ref a_law_leaves)
  b_law_leaves : Binds K d_law_leaves ["shapes"] []
  a_law_moved : Addr
  d_law_moved : FuncData
  F_law_moved : Fun K "_law_moved" "_law_moved" s_law_moved a_law_moved d_law_moved
  g_law_moved : mg "_law_moved" = some (.ref a_law_moved)
  b_law_moved : Binds K d_law_moved ["shape", "step"] []
  a_law_moves : Addr
  d_law_moves : FuncData
  F_law_moves : Fun K "_law_moves" "_law_moves" s_law_moves a_law_moves d_law_moves
  g_law_moves : mg "_law_moves" = some (.ref a_law_moves)
  b_law_moves : Binds K d_law_moves ["shapes", "step", "other"] []
  a_law : Addr
  d_law : FuncData
  F_law : Fun K "law" "law" s_law a_law d_law
  g_law : mg "law" = some (.ref a_law)
  b_law : Binds K d_law ["script"] []
  z_all : mg "all" = none
  z_bool : mg "bool" = none
  z_int : mg "int" = none
  z_isinstance : mg "isinstance" = none
  z_len : mg "len" = none
  z_list : mg "list" = none
  z_range : mg "range" = none
  z_set : mg "set" = none
  z_sorted : mg "sorted" = none
  z_str : mg "str" = none
  z_tuple : mg "tuple" = none
  z_zip : mg "zip" = none
  t_MOST_MADE : Tok
  n_MOST_MADE : mg "MOST_MADE" = some (.int 2000 t_MOST_MADE)
  c_Move : Addr
  gc_Move : mg "Move" = some (.ref c_Move)
  nc_Move : PySem.W.nsIn K mainGlobals "Move" = some (some (.ref c_Move))
  cl_Move : Cls K c_Move
  c_Everything : Addr
  gc_Everything : mg "Everything" = some (.ref c_Everything)
  nc_Everything : PySem.W.nsIn K mainGlobals "Everything" = some (some (.ref c_Everything))
  cl_Everything : Cls K c_Everything
  c_Nothing : Addr
  gc_Nothing : mg "Nothing" = some (.ref c_Nothing)
  nc_Nothing : PySem.W.nsIn K mainGlobals "Nothing" = some (some (.ref c_Nothing))
  cl_Nothing : Cls K c_Nothing
  c_Keep : Addr
  gc_Keep : mg "Keep" = some (.ref c_Keep)
  nc_Keep : PySem.W.nsIn K mainGlobals "Keep" = some (some (.ref c_Keep))
  cl_Keep : Cls K c_Keep
  c_Plan : Addr
  gc_Plan : mg "Plan" = some (.ref c_Plan)
  nc_Plan : PySem.W.nsIn K mainGlobals "Plan" = some (some (.ref c_Plan))
  cl_Plan : Cls K c_Plan
  mo_Keep : MkO K c_Keep
  mo_Nothing : MkO K c_Nothing
  mo_Everything : MkO K c_Everything
  fi_Move : Addr
  fd_Move : FuncData
  Fi_Move : Fun K "__init__" "Move.__init__" si_Move fi_Move fd_Move
  bi_Move : Binds K fd_Move ["self", "step", "plan"] []
  mk_Move : Mk K c_Move fi_Move
  na_Move_plan : NoAttr K c_Move "plan"
  na_Move_step : NoAttr K c_Move "step"
  m_Move_made : Meth K c_Move "made" a_Move_made
  m_Everything_made : Meth K c_Everything "made" a_Everything_made
  m_Nothing_made : Meth K c_Nothing "made" a_Nothing_made
  m_Keep_made : Meth K c_Keep "made" a_Plan_made
  m_Move_done : Meth K c_Move "done" a_Plan_done
  m_Everything_done : Meth K c_Everything "done" a_Plan_done
  m_Nothing_done : Meth K c_Nothing "done" a_Plan_done
  m_Keep_done : Meth K c_Keep "done" a_Plan_done
  m_Move_parts_in : Meth K c_Move "parts_in" a_Move_parts_in
  m_Everything_parts_in : Meth K c_Everything "parts_in" a_Plan_parts_in
  m_Nothing_parts_in : Meth K c_Nothing "parts_in" a_Plan_parts_in
  m_Keep_parts_in : Meth K c_Keep "parts_in" a_Plan_parts_in
  isi_0 : IsaI K (fun t => PySem.W.kitOne K t (.ref c_Plan)) reli_0
  isi_1 : IsaI K (fun t => PySem.W.kitOne K t (.ref c_Move)) reli_1
  isi_2 : IsaI K (fun t => PySem.W.kitAny K t [.ref c_Nothing, .ref c_Everything]) reli_2
  isi_3 : IsaI K (fun t => PySem.W.kitAny K t [.ref c_Keep, .ref c_Everything]) reli_3
  isi_4 : IsaI K (fun t => PySem.W.kitOne K t (.ref c_Keep)) reli_4
  isi_5 : IsaI K (fun t => PySem.W.kitAny K t [.ref c_Keep, .ref c_Nothing, .ref c_Everything]) reli_5
section
variable {P : Program} {w : World} {K : PySem.W.Frag} {mg : Str → Option Value} {base : Heap}
theorem oki_Move (T : Txt K mg) : FnOk P w K mg base (L2.CX P w) 1 T.fi_Move T.fd_Move ["self", "step", "plan"] (spK2 T.c_Move "step" "plan") := fn_mk2 T.Fi_Move sci_Move T.cl_Move T.na_Move_step T.na_Move_plan (by decide) fun cdv A outer s H Ex =>
  pss_cons (ps_fld (isv 0) (isv 1) (by rfl)) (pss_one (ps_fld (isv 0) (isv 2) (by rfl)))
def D_law_take : PF := fnP 3 2 (sSeq (qSet 2 (xV (e2 modD (e2 ixD (eVar 0) (eC (.int 0))) (eVar 1))))
  (sSeq (qAsg (gStore 0 0) (xV (e2 fdivD (e2 ixD (eVar 0) (eC (.int 0))) (eVar 1))))
  (qRet (xM (eVar 2)))))
theorem ok_law_take (T : Txt K mg) : FnP P w K mg base 1 T.a_law_take T.d_law_take ["pot", "many"] D_law_take := fn_mkP T.F_law_take sc_law_take fun cdv A outer s H Ex hr =>
  (dqs_cons (dq_set 2 sc_law_take.nd rfl (by first | exact .inl rfl | exact .inr rfl) (xe_view (de_op od_mod (de_ix id_ix (de_var 0) de_int) (de_var 1))))
  (dqs_cons (dq_asg (xe_view (de_op od_fdiv (de_ix id_ix (de_var 0) de_int) (de_var 1))) (dg_store (j := none) 0 (isv 0)))
  (dqs_one (dq_retP (xe_mask (de_var 2)) (by decide)))))
def I_law_shape_1 : DS → Res (List D) := (fun σ => ((aCons (eVar 1) aNil) σ).bind rng1)
def B_law_shape_1 : SF := (sSeq (qSet 7 (x2 subD (x2 addD (xM (eVar 3)) (xPot 0 D_law_take (xCons (xM (e2 addD (e2 mulD (eC (.int 2)) (eVar 2)) (eC (.int 1)))) xNil))) (xM (eVar 2))))
  (qMut 5 appendM (xCons (xTup (xCons (xM (eVar 7)) (xCons (x2 subD (x2 addD (xM (eVar 4)) (xPot 0 D_law_take (xCons (xM (e2 addD (e2 mulD (eC (.int 2)) (eVar 2)) (eC (.int 1)))) xNil))) (xM (eVar 2))) xNil))) xNil)))
def T_law_shape_1 : SF := (sFreeze 5 (qRet (xTup (xCons (xM (eCall tupleD (aCons (e1 sortSetD (eVar 5)) aNil))) (xCons (x2 eqD (xPot 0 D_law_take (xCons (xM (eC (.int 2))) xNil)) (xM (eC (.int 1)))) xNil)))))
def D_law_shape : PF := fnP 8 1 (sSeq (qSet 1 (x2 ixD (xM (eLst (aCons (eC (.int 0)) (aCons (eC (.int 1)) (aCons (eC (.int 2)) (aCons (eC (.int 3)) (aCons (eC (.int 5)) (aCons (eC (.int 8)) (aCons (eC (.int 12)) (aCons (eC (.int 20)) aNil)))))))))) (xPot 0 D_law_take (xCons (xM (eC (.int 8))) xNil))))
  (sSeq (qSet 2 (x2 ixD (xM (eLst (aCons (eC (.int 1)) (aCons (eC (.int 2)) (aCons (eC (.int 3)) (aCons (eC (.int 5)) aNil)))))) (xPot 0 D_law_take (xCons (xM (eC (.int 4))) xNil))))
  (sSeq (qSet 3 (x2 ixD (xM (eLst (aCons (eC (.int 0)) (aCons (eC (.int 0)) (aCons (eC (.int 0)) (aCons (e2 subD (e2 powD (eC (.int 10)) (eC (.int 12))) (eVar 2)) (aCons (e2 subD (eVar 2) (e2 powD (eC (.int 10)) (eC (.int 12)))) aNil))))))) (xPot 0 D_law_take (xCons (xM (eC (.int 5))) xNil))))
  (sSeq (qSet 4 (x2 ixD (xM (eLst (aCons (eC (.int 0)) (aCons (eC (.int 0)) (aCons (eC (.int 0)) (aCons (e2 subD (e2 powD (eC (.int 10)) (eC (.int 12))) (eVar 2)) (aCons (e2 subD (eVar 2) (e2 powD (eC (.int 10)) (eC (.int 12)))) aNil))))))) (xPot 0 D_law_take (xCons (xM (eC (.int 5))) xNil))))
  (sSeq (sNew 5 (eLst aNil))
  (sSeq (sFor I_law_shape_1 (gN 6)
  B_law_shape_1)
  T_law_shape_1))))))
theorem ok_law_shape (T : Txt K mg) : FnP P w K mg base 2 T.a_law_shape T.d_law_shape ["pot"] D_law_shape := fn_mkP T.F_law_shape sc_law_shape fun cdv A outer s H Ex hr =>
  (dqs_cons (dq_set 1 sc_law_shape.nd rfl (by first | exact .inl rfl | exact .inr rfl) (xe_ix id_ix (xe_mask (DN.de (dn_lst (da_cons de_int (da_cons de_int (da_cons de_int (da_cons de_int (da_cons de_int (da_cons de_int (da_cons de_int (da_cons de_int da_nil))))))))))) (xe_pot 0 (isv 0) (ok_law_take T) (hr.mono (by decide)) (by rfl) T.g_law_take T.F_law_take.kp T.b_law_take (takes_of rfl rfl rfl rfl) fnP_len (xa_cons (xe_mask de_int) xa_nil))))
  (dqs_cons (dq_set 2 sc_law_shape.nd rfl (by first | exact .inl rfl | exact .inr rfl) (xe_ix id_ix (xe_mask (DN.de (dn_lst (da_cons de_int (da_cons de_int (da_cons de_int (da_cons de_int da_nil))))))) (xe_pot 0 (isv 0) (ok_law_take T) (hr.mono (by decide)) (by rfl) T.g_law_take T.F_law_take.kp T.b_law_take (takes_of rfl rfl rfl rfl) fnP_len (xa_cons (xe_mask de_int) xa_nil))))
  (dqs_cons (dq_set 3 sc_law_shape.nd rfl (by first | exact .inl rfl | exact .inr rfl) (xe_ix id_ix (xe_mask (DN.de (dn_lst (da_cons de_int (da_cons de_int (da_cons de_int (da_cons (de_op od_sub (de_op od_pow de_int de_int) (de_var 2)) (da_cons (de_op od_sub (de_var 2) (de_op od_pow de_int de_int)) da_nil)))))))) (xe_pot 0 (isv 0) (ok_law_take T) (hr.mono (by decide)) (by rfl) T.g_law_take T.F_law_take.kp T.b_law_take (takes_of rfl rfl rfl rfl) fnP_len (xa_cons (xe_mask de_int) xa_nil))))
  (dqs_cons (dq_set 4 sc_law_shape.nd rfl (by first | exact .inl rfl | exact .inr rfl) (xe_ix id_ix (xe_mask (DN.de (dn_lst (da_cons de_int (da_cons de_int (da_cons de_int (da_cons (de_op od_sub (de_op od_pow de_int de_int) (de_var 2)) (da_cons (de_op od_sub (de_var 2) (de_op od_pow de_int de_int)) da_nil)))))))) (xe_pot 0 (isv 0) (ok_law_take T) (hr.mono (by decide)) (by rfl) T.g_law_take T.F_law_take.kp T.b_law_take (takes_of rfl rfl rfl rfl) fnP_len (xa_cons (xe_mask de_int) xa_nil))))
  (dqs_cons (dq_new 5 sc_law_shape.nd rfl (by first | exact .inl rfl | exact .inr rfl) (dn_lst da_nil))
  (dqs_cons (dq_for (passes_of rfl) rfl ((DR.di (dr_range1 (by rfl) T.z_range (da_cons (de_var 1) da_nil)))) (dg_name (i := 6) sc_law_shape.nd rfl (by first | exact .inl rfl | exact .inr rfl))
  (dqs_cons (dq_set 7 sc_law_shape.nd rfl (by first | exact .inl rfl | exact .inr rfl) (xe_op od_sub (xe_op od_add (xe_mask (de_var 3)) (xe_pot 0 (isv 0) (ok_law_take T) (hr.mono (by decide)) (by rfl) T.g_law_take T.F_law_take.kp T.b_law_take (takes_of rfl rfl rfl rfl) fnP_len (xa_cons (xe_mask (de_op od_add (de_op od_mul de_int (de_var 2)) de_int)) xa_nil))) (xe_mask (de_var 2))))
  (dqs_one (dq_mut 5 (isv 5) md_append (fun hm ho ha => pe_bm PySem.F.plainAttrs_list PySem.F.slot_list_append PySem.F.type_list_append hm ho ha) (xa_cons (xe_tup (xa_cons (xe_mask (de_var 7)) (xa_cons (xe_op od_sub (xe_op od_add (xe_mask (de_var 4)) (xe_pot 0 (isv 0) (ok_law_take T) (hr.mono (by decide)) (by rfl) T.g_law_take T.F_law_take.kp T.b_law_take (takes_of rfl rfl rfl rfl) fnP_len (xa_cons (xe_mask (de_op od_add (de_op od_mul de_int (de_var 2)) de_int)) xa_nil))) (xe_mask (de_var 2))) xa_nil))) xa_nil)))))
  (dqs_freeze 5 (dqs_one (dq_retP (xe_tup (xa_cons (xe_mask (de_callTy (cd_tuple) (by rfl) T.z_tuple (by decide +kernel) (da_cons (DN.de (dn_sortedSet rfl (hu70 hr) (by rfl) T.z_sorted (by decide +kernel) (by rfl) T.z_set (by decide +kernel) (de_var 5))) da_nil))) (xa_cons (xe_cmp (od_eq (hu64 hr)) (xe_pot 0 (isv 0) (ok_law_take T) (hr.mono (by decide)) (by rfl) T.g_law_take T.F_law_take.kp T.b_law_take (takes_of rfl rfl rfl rfl) fnP_len (xa_cons (xe_mask de_int) xa_nil)) (xe_mask de_int)) xa_nil))) (by decide))))))))))
def D_law_step : PF := fnP 3 1 (sSeq (qSet 1 (x2 ixD (xM (eLst (aCons (eC (.int 1)) (aCons (eC (.int 2)) (aCons (eC (.int 3)) (aCons (e2 powD (eC (.int 10)) (eC (.int 6))) aNil)))))) (xPot 0 D_law_take (xCons (xM (eC (.int 4))) xNil))))
  (sSeq (qSet 2 (x2 subD (xPot 0 D_law_take (xCons (xM (e2 addD (e2 mulD (eC (.int 2)) (eVar 1)) (eC (.int 1)))) xNil)) (xM (eVar 1))))
  (qRet (xTup (xCons (xM (eVar 2)) (xCons (x2 subD (xPot 0 D_law_take (xCons (xM (e2 addD (e2 mulD (eC (.int 2)) (eVar 1)) (eC (.int 1)))) xNil)) (xM (eVar 1))) xNil))))))
theorem ok_law_step (T : Txt K mg) : FnP P w K mg base 2 T.a_law_step T.d_law_step ["pot"] D_law_step := fn_mkP T.F_law_step sc_law_step fun cdv A outer s H Ex hr =>
  (dqs_cons (dq_set 1 sc_law_step.nd rfl (by first | exact .inl rfl | exact .inr rfl) (xe_ix id_ix (xe_mask (DN.de (dn_lst (da_cons de_int (da_cons de_int (da_cons de_int (da_cons (de_op od_pow de_int de_int) da_nil))))))) (xe_pot 0 (isv 0) (ok_law_take T) (hr.mono (by decide)) (by rfl) T.g_law_take T.F_law_take.kp T.b_law_take (takes_of rfl rfl rfl rfl) fnP_len (xa_cons (xe_mask de_int) xa_nil))))
  (dqs_cons (dq_set 2 sc_law_step.nd rfl (by first | exact .inl rfl | exact .inr rfl) (xe_op od_sub (xe_pot 0 (isv 0) (ok_law_take T) (hr.mono (by decide)) (by rfl) T.g_law_take T.F_law_take.kp T.b_law_take (takes_of rfl rfl rfl rfl) fnP_len (xa_cons (xe_mask (de_op od_add (de_op od_mul de_int (de_var 1)) de_int)) xa_nil)) (xe_mask (de_var 1))))
  (dqs_one (dq_retP (xe_tup (xa_cons (xe_mask (de_var 2)) (xa_cons (xe_op od_sub (xe_pot 0 (isv 0) (ok_law_take T) (hr.mono (by decide)) (by rfl) T.g_law_take T.F_law_take.kp T.b_law_take (takes_of rfl rfl rfl rfl) fnP_len (xa_cons (xe_mask (de_op od_add (de_op od_mul de_int (de_var 1)) de_int)) xa_nil)) (xe_mask (de_var 1))) xa_nil))) (by decide)))))
def C_law_deal_1 : SF := (sRet (e2 subD (eVar 0) (e2 powD (eC (.int 10)) (eC (.int 18)))))
def I_law_deal_1 : DS → Res (List D) := (fun σ => ((aCons (eVar 1) aNil) σ).bind rng1)
def B_law_deal_1 : SF := (sSeq (sSet 3 (e2 modD (e2 addD (e2 addD (e2 mulD (eVar 3) (eC (.int 48271))) (e2 mulD (e2 mulD (eC (.int 7919)) (eVar 4)) (eVar 4))) (eC (.int 104729))) (eC (.int 2147483647))))
  (sSeq (sSet 5 (e2 modD (e2 mulD (eVar 3) (eVar 3)) (eC (.int 2147483629))))
  (sSet 2 (e2 addD (e2 mulD (eVar 2) (eC (.int 65536))) (e2 modD (e2 fdivD (eVar 5) (eC (.int 512))) (eC (.int 65536)))))))
def D_law_deal : List D → Res D := fnD 6 2 (sSeq (sIf (tB (e2 geD (eVar 0) (e2 powD (eC (.int 10)) (eC (.int 18))))) C_law_deal_1 sNil)
  (sSeq (sSet 2 (eC (.int 0)))
  (sSeq (sSet 3 (e2 addD (e2 modD (eVar 0) (eC (.int 2147483647))) (eC (.int 16807))))
  (sSeq (sFor I_law_deal_1 (gN 4)
  B_law_deal_1)
  (sRet (eVar 2))))))
theorem ok_law_deal (T : Txt K mg) : FnD P w K mg base 1 T.a_law_deal T.d_law_deal ["cell", "many"] D_law_deal := fn_mk T.F_law_deal sc_law_deal fun cdv A outer s H Ex hr =>
  (dss_cons (ds_if (dt_cmp od_ge (de_var 0) (de_op od_pow de_int de_int)) (dss_one (ds_ret (de_op od_sub (de_var 0) (de_op od_pow de_int de_int)))) dss_nil)
  (dss_cons (ds_set 2 sc_law_deal.nd rfl (by first | exact .inl rfl | exact .inr rfl) de_int)
  (dss_cons (ds_set 3 sc_law_deal.nd rfl (by first | exact .inl rfl | exact .inr rfl) (de_op od_add (de_op od_mod (de_var 0) de_int) de_int))
  (dss_cons (ds_for (passes_of rfl) rfl ((DR.di (dr_range1 (by rfl) T.z_range (da_cons (de_var 1) da_nil)))) (dg_name (i := 4) sc_law_deal.nd rfl (by first | exact .inl rfl | exact .inr rfl))
  (dss_cons (ds_set 3 sc_law_deal.nd rfl (by first | exact .inl rfl | exact .inr rfl) (de_op od_mod (de_op od_add (de_op od_add (de_op od_mul (de_var 3) de_int) (de_op od_mul (de_op od_mul de_int (de_var 4)) (de_var 4))) de_int) de_int))
  (dss_cons (ds_set 5 sc_law_deal.nd rfl (by first | exact .inl rfl | exact .inr rfl) (de_op od_mod (de_op od_mul (de_var 3) (de_var 3)) de_int))
  (dss_one (ds_set 2 sc_law_deal.nd rfl (by first | exact .inl rfl | exact .inr rfl) (de_op od_add (de_op od_mul (de_var 2) de_int) (de_op od_mod (de_op od_fdiv (de_var 5) de_int) de_int)))))))
  (dss_one (ds_ret (de_var 2)))))))
def C_law_same_1 (D_rec : List D → Res D) : SF := (sSeq (sIf (E3.tOr (tB (e2 neD (e1 (isiD "tuple") (eVar 0)) (e1 (isiD "tuple") (eVar 1)))) (E3.tNot (E3.tB (e1 (isiTD ["tuple", "list"]) (eVar 0))))) (sRet (eC (.bool false))) sNil)
  (sRet (eAnd (e2 eqD (eCall lenD (aCons (eVar 0) aNil)) (eCall lenD (aCons (eVar 1) aNil))) (eCall allD (aCons (eLc (fun σ => ((aCons (eVar 0) (aCons (eVar 1) aNil)) σ).bind zipR) (gT 2 (gsCons (gN 2) (gsCons (gN 3) gsNil))) [2, 3] tYesD (eCall D_rec (aCons (eVar 2) (aCons (eVar 3) aNil)))) aNil)))))
def C_law_same_2 (D_rec : List D → Res D) : SF := (sRet (eAnd (e1 (isiD "bool") (eVar 1)) (eAnd (e1 (isiD "bool") (eVar 0)) (e2 eqD (eVar 0) (eVar 1)))))
def C_law_same_3 (D_rec : List D → Res D) : SF := (sRet (eAnd (e1 (isiD "str") (eVar 0)) (e2 eqD (eVar 0) (eVar 1))))
def D_law_same : Nat → List D → Res D
  | 0 => fnD 4 2 sStuck
  | n + 1 => fnD 4 2 (sSeq (sIf (E3.tB (e1 (isiTD ["tuple", "list"]) (eVar 1))) (C_law_same_1 (D_law_same n)) sNil)
  (sSeq (sIf (E3.tOr (E3.tB (e1 (isiD "bool") (eVar 1))) (E3.tB (e1 (isiD "bool") (eVar 0)))) (C_law_same_2 (D_law_same n)) sNil)
  (sSeq (sIf (E3.tB (e1 (isiD "str") (eVar 1))) (C_law_same_3 (D_law_same n)) sNil)
  (sRet (eAnd (e1 (isiD "int") (eVar 0)) (e2 eqD (eVar 0) (eVar 1)))))))
theorem rec_law_same : ∀ (n : Nat) (ds : List D), ds.length ≠ 2 → D_law_same n ds = .stuck
  | 0, _, h => if_neg h
  | _ + 1, _, h => if_neg h
theorem ok_law_same (T : Txt K mg) : ∀ n : Nat, FnD P w K mg base (1 + n) T.a_law_same T.d_law_same ["found", "due"] (D_law_same n)
  | 0 => fn_mk (k := 0) T.F_law_same sc_law_same fun cdv A outer s H Ex hr => dss_stuck
  | n + 1 => fn_mk (k := 1 + n) T.F_law_same sc_law_same fun cdv A outer s H Ex hr =>
  (dss_cons (ds_if (dt_val (de_isiT (Ts := ["tuple", "list"]) (toks_cons tok_tuple (toks_cons tok_list toks_nil)) (.cons ⟨by rfl, by decide, .inr ⟨T.z_tuple, by decide +kernel, by decide⟩⟩ (.ty _) (by rfl) (.cons ⟨by rfl, by decide, .inr ⟨T.z_list, by decide +kernel, by decide⟩⟩ (.ty _) (by rfl) .nil)) (by decide) T.z_isinstance (by rfl) (de_var 1))) (dss_cons (ds_if (DW.pt (dw_or (dt_cmp (od_ne (hu64 hr)) (de_isi tok_tuple T.z_isinstance (by rfl) (de_var 0) (by rfl) T.z_tuple (by decide +kernel)) (de_isi tok_tuple T.z_isinstance (by rfl) (de_var 1) (by rfl) T.z_tuple (by decide +kernel))) (dw_or1 (dt_not (dt_val (de_isiT (Ts := ["tuple", "list"]) (toks_cons tok_tuple (toks_cons tok_list toks_nil)) (.cons ⟨by rfl, by decide, .inr ⟨T.z_tuple, by decide +kernel, by decide⟩⟩ (.ty _) (by rfl) (.cons ⟨by rfl, by decide, .inr ⟨T.z_list, by decide +kernel, by decide⟩⟩ (.ty _) (by rfl) .nil)) (by decide) T.z_isinstance (by rfl) (de_var 0))))))) (dss_one (ds_ret de_bl)) dss_nil)
  (dss_one (ds_ret (de_and (de_cmp (od_eq (hu64 hr)) (de_callB (cd_len) (by rfl) T.z_len (by decide +kernel) (da_cons (de_var 0) da_nil)) (de_callB (cd_len) (by rfl) T.z_len (by decide +kernel) (da_cons (de_var 1) da_nil))) (de_one (de_callB (cd_all rfl) (by rfl) T.z_all (by decide +kernel) (da_cons (DN.de (dn_lc (own := [("one", 2), ("other", 3)]) (pt := (gT 2 (gsCons (gN 2) (gsCons (gN 3) gsNil)))) (ix := [2, 3]) rfl sc_law_same.nd (di_zip (by rfl) T.z_zip (da_cons (de_var 0) (da_cons (de_var 1) da_nil))) (blkOk_by (own := [("one", 2), ("other", 3)]) (N := ["found", "due", "one", "other"]) (sc := defScope s_law_same) (by decide +kernel)) (by decide) (fun _ _ _ _ _ => (dg_tup rfl (dgs_cons (dg_name (i := 2) sc_law_same.nd rfl (by first | exact .inl rfl | exact .inr rfl)) (dgs_cons (dg_name (i := 3) sc_law_same.nd rfl (by first | exact .inl rfl | exact .inr rfl)) dgs_nil)))) (fun _ _ _ _ _ => dts_nil) (fun _ _ _ _ _ => (de_call (ok_law_same T n) (hr.mono (by omega)) (by rfl) T.g_law_same T.F_law_same.kp T.b_law_same takes0 (rec_law_same _) (da_cons (de_var 2) (da_cons (de_var 3) da_nil)))))) da_nil))))))) dss_nil)
  (dss_cons (ds_if (DW.pt (dw_or (dt_val (de_isi tok_bool T.z_isinstance (by rfl) (de_var 1) (by rfl) T.z_bool (by decide +kernel))) (dw_or1 (dt_val (de_isi tok_bool T.z_isinstance (by rfl) (de_var 0) (by rfl) T.z_bool (by decide +kernel)))))) (dss_one (ds_ret (de_and (de_isi tok_bool T.z_isinstance (by rfl) (de_var 1) (by rfl) T.z_bool (by decide +kernel)) (de_and (de_isi tok_bool T.z_isinstance (by rfl) (de_var 0) (by rfl) T.z_bool (by decide +kernel)) (de_one (de_cmp (od_eq (hu64 hr)) (de_var 0) (de_var 1))))))) dss_nil)
  (dss_cons (ds_if (dt_val (de_isi tok_str T.z_isinstance (by rfl) (de_var 1) (by rfl) T.z_str (by decide +kernel))) (dss_one (ds_ret (de_and (de_isi tok_str T.z_isinstance (by rfl) (de_var 0) (by rfl) T.z_str (by decide +kernel)) (de_one (de_cmp (od_eq (hu64 hr)) (de_var 0) (de_var 1)))))) dss_nil)
  (dss_one (ds_ret (de_and (de_isi tok_int T.z_isinstance (by rfl) (de_var 0) (by rfl) T.z_int (by decide +kernel)) (de_one (de_cmp (od_eq (hu64 hr)) (de_var 0) (de_var 1)))))))))
def D_Plan_made : List D → Res D := fnD 2 2 (sRet (eVar 1))
theorem ok_Plan_made (T : Txt K mg) : FnD P w K mg base 1 T.a_Plan_made T.d_Plan_made ["self", "shape"] D_Plan_made := fn_mk T.F_Plan_made sc_Plan_made fun cdv A outer s H Ex hr =>
  (dss_one (ds_ret (de_var 1)))
def D_Nothing_made : List D → Res D := fnD 2 2 (sRet (eTup (aCons (eTup aNil) (aCons (eC (.bool false)) aNil))))
theorem ok_Nothing_made (T : Txt K mg) : FnD P w K mg base 1 T.a_Nothing_made T.d_Nothing_made ["self", "shape"] D_Nothing_made := fn_mk T.F_Nothing_made sc_Nothing_made fun cdv A outer s H Ex hr =>
  (dss_one (ds_ret (de_tup (da_cons (de_tup da_nil) (da_cons de_bl da_nil)))))
def D_Everything_made : List D → Res D := fnD 2 2 (sRet (eTup (aCons (eTup aNil) (aCons (eC (.bool true)) aNil))))
theorem ok_Everything_made (T : Txt K mg) : FnD P w K mg base 1 T.a_Everything_made T.d_Everything_made ["self", "shape"] D_Everything_made := fn_mk T.F_Everything_made sc_Everything_made fun cdv A outer s H Ex hr =>
  (dss_one (ds_ret (de_tup (da_cons (de_tup da_nil) (da_cons de_bl da_nil)))))
def D_moved_cell : List D → Res D := fnD 2 2 (sRet (eTup (aCons (e2 addD (e2 ixD (eVar 0) (eC (.int 0))) (e2 ixD (eVar 1) (eC (.int 0)))) (aCons (e2 addD (e2 ixD (eVar 0) (eC (.int 1))) (e2 ixD (eVar 1) (eC (.int 1)))) aNil))))
theorem ok_moved_cell (T : Txt K mg) : FnD P w K mg base 1 T.a_moved_cell T.d_moved_cell ["cell", "step"] D_moved_cell := fn_mk T.F_moved_cell sc_moved_cell fun cdv A outer s H Ex hr =>
  (dss_one (ds_ret (de_tup (da_cons (de_op od_add (de_ix id_ix (de_var 0) de_int) (de_ix id_ix (de_var 1) de_int)) (da_cons (de_op od_add (de_ix id_ix (de_var 0) de_int) (de_ix id_ix (de_var 1) de_int)) da_nil)))))
def D_moved : List D → Res D := fnD 5 2 (sSeq (sAsg (gT 2 (gsCons (gN 2) (gsCons (gN 3) gsNil))) (eVar 0))
  (sRet (eTup (aCons (eCall tupleD (aCons (eLc (fun σ => ((eVar 2) σ).bind seqOf) (gN 4) [4] tYesD (eCall D_moved_cell (aCons (eVar 4) (aCons (eVar 1) aNil)))) aNil)) (aCons (eVar 3) aNil)))))
theorem ok_moved (T : Txt K mg) : FnD P w K mg base 2 T.a_moved T.d_moved ["shape", "step"] D_moved := fn_mk T.F_moved sc_moved fun cdv A outer s H Ex hr =>
  (dss_cons (ds_asg (de_var 0) (dg_tup rfl (dgs_cons (dg_name (i := 2) sc_moved.nd rfl (by first | exact .inl rfl | exact .inr rfl)) (dgs_cons (dg_name (i := 3) sc_moved.nd rfl (by first | exact .inl rfl | exact .inr rfl)) dgs_nil))))
  (dss_one (ds_ret (de_tup (da_cons (de_callTy (cd_tuple) (by rfl) T.z_tuple (by decide +kernel) (da_cons (DN.de (dn_lc (own := [("cell", 4)]) (pt := (gN 4)) (ix := [4]) rfl sc_moved.nd (di_seq (de_var 2)) (blkOk_by (own := [("cell", 4)]) (N := ["shape", "step", "cells", "rest", "cell"]) (sc := defScope s_moved) (by decide +kernel)) (by decide) (fun _ _ _ _ _ => (dg_name (i := 4) sc_moved.nd rfl (by first | exact .inl rfl | exact .inr rfl))) (fun _ _ _ _ _ => dts_nil) (fun _ _ _ _ _ => (de_call (ok_moved_cell T) (hr.mono (by decide)) (by rfl) T.g_moved_cell T.F_moved_cell.kp T.b_moved_cell takes0 fnD_len (da_cons (de_var 4) (da_cons (de_var 1) da_nil)))))) da_nil)) (da_cons (de_var 3) da_nil))))))
def H_Plan_done (r_Plan_done r_Move_made : List D → Res D) : List D → Res D := fnD 3 2 (sSeq (sSet 2 (eMeth "made" [("Keep", D_Plan_made), ("Nothing", D_Nothing_made), ("Everything", D_Everything_made), ("Move", r_Move_made)] (eVar 0) (aCons (eVar 1) aNil)))
  (sSeq (sIf (tB (e2 gtD (eCall lenD (aCons (e2 ixD (eVar 2) (eC (.int 0))) aNil)) (eC (.int 2000)))) sStuck sNil)
  (sRet (eVar 2))))
def H_Move_made (r_Plan_done r_Move_made : List D → Res D) : List D → Res D := fnD 2 2 (sRet (eCall D_moved (aCons (eMeth "done" [("Keep", r_Plan_done), ("Nothing", r_Plan_done), ("Everything", r_Plan_done), ("Move", r_Plan_done)] (e1 (fldI okf_plan "plan") (eVar 0)) (aCons (eVar 1) aNil)) (aCons (e1 (fldI okf_step "step") (eVar 0)) aNil))))
def GG0 : Nat → (List D → Res D) × (List D → Res D)
  | 0 => (fnD 3 2 sStuck, fnD 2 2 sStuck)
  | n + 1 => (H_Plan_done ((GG0 n).1) ((GG0 n).2), H_Move_made ((GG0 n).1) ((GG0 n).2))
def D_Plan_done (n : Nat) : List D → Res D := (GG0 n).1
theorem rec_Plan_done : ∀ (n : Nat) (ds : List D), ds.length ≠ 2 → D_Plan_done n ds = .stuck
  | 0, _, h => if_neg h
  | _ + 1, _, h => if_neg h
def D_Move_made (n : Nat) : List D → Res D := (GG0 n).2
theorem rec_Move_made : ∀ (n : Nat) (ds : List D), ds.length ≠ 2 → D_Move_made n ds = .stuck
  | 0, _, h => if_neg h
  | _ + 1, _, h => if_neg h
theorem okG0 (T : Txt K mg) : ∀ n : Nat, FnD P w K mg base (3 + n) T.a_Plan_done T.d_Plan_done ["self", "shape"] (D_Plan_done n) ∧ FnD P w K mg base (3 + n) T.a_Move_made T.d_Move_made ["self", "shape"] (D_Move_made n)
  | 0 => ⟨fn_mk (k := 2) T.F_Plan_done sc_Plan_done fun cdv A outer s H Ex hr => dss_stuck, fn_mk (k := 2) T.F_Move_made sc_Move_made fun cdv A outer s H Ex hr => dss_stuck⟩
  | n + 1 =>
  have ih := okG0 T n
  ⟨fn_mk (k := 3 + n) T.F_Plan_done sc_Plan_done fun cdv A outer s H Ex hr =>
  (dss_cons (ds_set 2 sc_Plan_done.nd rfl (by first | exact .inl rfl | exact .inr rfl) (de_meth (m := "made") (.cons T.nc_Keep T.cl_Keep T.m_Keep_made (ok_Plan_made T) (hr.mono (by omega)) T.b_Plan_made fnD_len (.cons T.nc_Nothing T.cl_Nothing T.m_Nothing_made (ok_Nothing_made T) (hr.mono (by omega)) T.b_Nothing_made fnD_len (.cons T.nc_Everything T.cl_Everything T.m_Everything_made (ok_Everything_made T) (hr.mono (by omega)) T.b_Everything_made fnD_len (.cons T.nc_Move T.cl_Move T.m_Move_made (ih.2) (hr.mono (by omega)) T.b_Move_made (rec_Move_made _) .nil)))) (takes_of rfl rfl rfl rfl) (de_var 0) (da_cons (de_var 1) da_nil)))
  (dss_cons (ds_if (dt_cmp od_gt (de_callB (cd_len) (by rfl) T.z_len (by decide +kernel) (da_cons (de_ix id_ix (de_var 2) de_int) da_nil)) (de_glob (v := .int 2000) (by rfl) T.n_MOST_MADE ⟨_, rfl⟩ (fun _ => Rp.int _))) (dss_one ds_never) dss_nil)
  (dss_one (ds_ret (de_var 2))))),
  fn_mk (k := 3 + n) T.F_Move_made sc_Move_made fun cdv A outer s H Ex hr =>
  (dss_one (ds_ret (de_call (ok_moved T) (hr.mono (by omega)) (by rfl) T.g_moved T.F_moved.kp T.b_moved (takes_of rfl rfl rfl rfl) fnD_len (da_cons (de_meth (m := "done") (.cons T.nc_Keep T.cl_Keep T.m_Keep_done (ih.1) (hr.mono (by omega)) T.b_Plan_done (rec_Plan_done _) (.cons T.nc_Nothing T.cl_Nothing T.m_Nothing_done (ih.1) (hr.mono (by omega)) T.b_Plan_done (rec_Plan_done _) (.cons T.nc_Everything T.cl_Everything T.m_Everything_done (ih.1) (hr.mono (by omega)) T.b_Plan_done (rec_Plan_done _) (.cons T.nc_Move T.cl_Move T.m_Move_done (ih.1) (hr.mono (by omega)) T.b_Plan_done (rec_Plan_done _) .nil)))) (takes_of rfl rfl rfl rfl) (de_attr (ok := okf_plan) (insok_cons T.nc_Move T.cl_Move T.na_Move_plan insok_nil) (de_var 0)) (da_cons (de_var 1) da_nil)) (da_cons (de_attr (ok := okf_step) (insok_cons T.nc_Move T.cl_Move T.na_Move_step insok_nil) (de_var 0)) da_nil)))))⟩
theorem ok_Plan_done (T : Txt K mg) (n : Nat) : FnD P w K mg base (3 + n) T.a_Plan_done T.d_Plan_done ["self", "shape"] (D_Plan_done n) := (okG0 T n).1
theorem ok_Move_made (T : Txt K mg) (n : Nat) : FnD P w K mg base (3 + n) T.a_Move_made T.d_Move_made ["self", "shape"] (D_Move_made n) := (okG0 T n).2
def I_law_makes_1 : DS → Res (List D) := (fun σ => ((aCons (eVar 1) (aCons (eVar 2) aNil)) σ).bind zipR)
def B_law_makes_1 : SF := (sIf (E3.tNot (E3.tB (eCall (D_law_same 64) (aCons (eMeth "done" [("Keep", (D_Plan_done 64)), ("Nothing", (D_Plan_done 64)), ("Everything", (D_Plan_done 64)), ("Move", (D_Plan_done 64))] (eVar 0) (aCons (eVar 3) aNil)) (aCons (eVar 4) aNil))))) (sRet (eC (.bool false))) sNil)
def D_law_makes : List D → Res D := fnD 5 3 (sSeq (sFor I_law_makes_1 (gT 2 (gsCons (gN 3) (gsCons (gN 4) gsNil)))
  B_law_makes_1)
  (sRet (eC (.bool true))))
theorem ok_law_makes (T : Txt K mg) : FnD P w K mg base 68 T.a_law_makes T.d_law_makes ["plan", "shapes", "dues"] D_law_makes := fn_mk T.F_law_makes sc_law_makes fun cdv A outer s H Ex hr =>
  (dss_cons (ds_for (passes_of rfl) rfl ((di_zip (by rfl) T.z_zip (da_cons (de_var 1) (da_cons (de_var 2) da_nil)))) (dg_tup rfl (dgs_cons (dg_name (i := 3) sc_law_makes.nd rfl (by first | exact .inl rfl | exact .inr rfl)) (dgs_cons (dg_name (i := 4) sc_law_makes.nd rfl (by first | exact .inl rfl | exact .inr rfl)) dgs_nil)))
  (dss_one (ds_if (dt_not (dt_val (de_call (ok_law_same T 64) (hr.mono (by decide)) (by rfl) T.g_law_same T.F_law_same.kp T.b_law_same (takes_of rfl rfl rfl rfl) (rec_law_same _) (da_cons (de_meth (m := "done") (.cons T.nc_Keep T.cl_Keep T.m_Keep_done (ok_Plan_done T 64) (hr.mono (by decide)) T.b_Plan_done (rec_Plan_done _) (.cons T.nc_Nothing T.cl_Nothing T.m_Nothing_done (ok_Plan_done T 64) (hr.mono (by decide)) T.b_Plan_done (rec_Plan_done _) (.cons T.nc_Everything T.cl_Everything T.m_Everything_done (ok_Plan_done T 64) (hr.mono (by decide)) T.b_Plan_done (rec_Plan_done _) (.cons T.nc_Move T.cl_Move T.m_Move_done (ok_Plan_done T 64) (hr.mono (by decide)) T.b_Plan_done (rec_Plan_done _) .nil)))) (takes_of rfl rfl rfl rfl) (de_var 0) (da_cons (de_var 3) da_nil)) (da_cons (de_var 4) da_nil))))) (dss_one (ds_ret de_bl)) dss_nil)))
  (dss_one (ds_ret de_bl)))
def D_Plan_parts_in : List D → Res D := fnN 1 1 (qRet (xM (eLst aNil)))
theorem ok_Plan_parts_in (T : Txt K mg) : FnN P w K mg base 1 T.a_Plan_parts_in T.d_Plan_parts_in ["self"] D_Plan_parts_in := fn_mkN T.F_Plan_parts_in sc_Plan_parts_in fun cdv A outer s H Ex hr =>
  (dqs_one (dq_retN (dn_lst da_nil)))
def D_Move_parts_in : List D → Res D := fnN 1 1 (qRet (xM (eLst (aCons (e1 (fldI okf_plan "plan") (eVar 0)) aNil))))
theorem ok_Move_parts_in (T : Txt K mg) : FnN P w K mg base 1 T.a_Move_parts_in T.d_Move_parts_in ["self"] D_Move_parts_in := fn_mkN T.F_Move_parts_in sc_Move_parts_in fun cdv A outer s H Ex hr =>
  (dqs_one (dq_retN (dn_lst (da_cons (de_attr (ok := okf_plan) (insok_cons T.nc_Move T.cl_Move T.na_Move_plan insok_nil) (de_var 0)) da_nil))))
def D_law_leaf : List D → Res D := fnD 2 1 (sSeq (sNew 1 (eMeth0 "parts_in" [("Keep", D_Plan_parts_in), ("Nothing", D_Plan_parts_in), ("Everything", D_Plan_parts_in), ("Move", D_Move_parts_in)] (eVar 0)))
  (sSeq (sIf (E3.tOr (E3.tNot (E3.tB (e1 (isaI reli_0) (eVar 0)))) (E3.tOr (E3.tNot (E3.tB (e1 (isiD "list") (eVar 1)))) (tB (e2 neD (eVar 1) (eLst aNil))))) (sRet (eC (.bool false))) sNil)
  (sSeq (sMut 1 appendM (aCons (eVar 0) aNil))
  (sFreeze 1 (sRet (eAnd (e2 eqD (eMeth0 "parts_in" [("Keep", D_Plan_parts_in), ("Nothing", D_Plan_parts_in), ("Everything", D_Plan_parts_in), ("Move", D_Move_parts_in)] (eVar 0)) (eLst aNil)) (e1 notD (e1 (isaI reli_1) (eVar 0)))))))))
theorem ok_law_leaf (T : Txt K mg) : FnD P w K mg base 2 T.a_law_leaf T.d_law_leaf ["plan"] D_law_leaf := fn_mk T.F_law_leaf sc_law_leaf fun cdv A outer s H Ex hr =>
  (dss_cons (ds_new 1 sc_law_leaf.nd rfl (by first | exact .inl rfl | exact .inr rfl) (dn_meth0 (m := "parts_in") (.cons T.nc_Keep T.cl_Keep T.m_Keep_parts_in (ok_Plan_parts_in T) (hr.mono (by decide)) T.b_Plan_parts_in fnN_len (.cons T.nc_Nothing T.cl_Nothing T.m_Nothing_parts_in (ok_Plan_parts_in T) (hr.mono (by decide)) T.b_Plan_parts_in fnN_len (.cons T.nc_Everything T.cl_Everything T.m_Everything_parts_in (ok_Plan_parts_in T) (hr.mono (by decide)) T.b_Plan_parts_in fnN_len (.cons T.nc_Move T.cl_Move T.m_Move_parts_in (ok_Move_parts_in T) (hr.mono (by decide)) T.b_Move_parts_in fnN_len .nil)))) (takes_of rfl rfl rfl rfl) (de_var 0)))
  (dss_cons (ds_if (DW.pt (dw_or (dt_not (dt_val (de_isaI T.isi_0 ⟨by rfl, by decide, .inl T.gc_Plan⟩ (.own _) T.z_isinstance (by rfl) (de_var 0)))) (dw_or (dt_not (dt_val (de_isi tok_list T.z_isinstance (by rfl) (de_var 1) (by rfl) T.z_list (by decide +kernel)))) (dw_or1 (dt_cmp (od_ne (hu64 hr)) (de_var 1) (DN.de (dn_lst da_nil))))))) (dss_one (ds_ret de_bl)) dss_nil)
  (dss_cons (ds_mut 1 (isv 1) md_append (fun hm ho ha => pe_bm PySem.F.plainAttrs_list PySem.F.slot_list_append PySem.F.type_list_append hm ho ha) (da_cons (de_var 0) da_nil))
  (dss_freeze 1 (dss_one (ds_ret (de_and (de_cmp (od_eq (hu64 hr)) (de_meth0 (m := "parts_in") (.cons T.nc_Keep T.cl_Keep T.m_Keep_parts_in ((ok_Plan_parts_in T).dat) (hr.mono (by decide)) T.b_Plan_parts_in fnN_len (.cons T.nc_Nothing T.cl_Nothing T.m_Nothing_parts_in ((ok_Plan_parts_in T).dat) (hr.mono (by decide)) T.b_Plan_parts_in fnN_len (.cons T.nc_Everything T.cl_Everything T.m_Everything_parts_in ((ok_Plan_parts_in T).dat) (hr.mono (by decide)) T.b_Plan_parts_in fnN_len (.cons T.nc_Move T.cl_Move T.m_Move_parts_in ((ok_Move_parts_in T).dat) (hr.mono (by decide)) T.b_Move_parts_in fnN_len .nil)))) (takes_of rfl rfl rfl rfl) (de_var 0)) (DN.de (dn_lst da_nil))) (de_one (de_not (de_isaI T.isi_1 ⟨by rfl, by decide, .inl T.gc_Move⟩ (.own _) T.z_isinstance (by rfl) (de_var 0)))))))))))
def D_law_leaves : List D → Res D := fnD 4 1 (sSeq (sSet 1 (eC (.dict [(.bool true, .str "Keep")])))
  (sSeq (sSet 2 (eC (.dict [(.bool true, .str "Nothing")])))
  (sSeq (sSet 3 (eC (.dict [(.bool true, .str "Everything")])))
  (sSeq (sIf (E3.tOr (E3.tNot (E3.tB (eCall D_law_makes (aCons (eVar 1) (aCons (eVar 0) (aCons (eVar 0) aNil)))))) (E3.tNot (E3.tB (eCall D_law_makes (aCons (eVar 2) (aCons (eVar 0) (aCons (e2 mulLD (eLst (aCons (eTup (aCons (eTup aNil) (aCons (eC (.bool false)) aNil))) aNil)) (eCall lenD (aCons (eVar 0) aNil))) aNil))))))) (sRet (eC (.bool false))) sNil)
  (sSeq (sIf (E3.tNot (E3.tB (eCall D_law_makes (aCons (eVar 3) (aCons (eVar 0) (aCons (e2 mulLD (eLst (aCons (eTup (aCons (eTup aNil) (aCons (eC (.bool true)) aNil))) aNil)) (eCall lenD (aCons (eVar 0) aNil))) aNil)))))) (sRet (eC (.bool false))) sNil)
  (sSeq (sIf (E3.tOr (E3.tB (e1 (isaI reli_2) (eVar 1))) (E3.tB (e1 (isaI reli_3) (eVar 2)))) (sRet (eC (.bool false))) sNil)
  (sRet (eAnd (eCall D_law_leaf (aCons (eVar 1) aNil)) (eAnd (eCall D_law_leaf (aCons (eVar 2) aNil)) (eAnd (eCall D_law_leaf (aCons (eVar 3) aNil)) (e1 notD (e1 (isaI reli_4) (eVar 3)))))))))))))
theorem ok_law_leaves (T : Txt K mg) : FnD P w K mg base 69 T.a_law_leaves T.d_law_leaves ["shapes"] D_law_leaves := fn_mk T.F_law_leaves sc_law_leaves fun cdv A outer s H Ex hr =>
  (dss_cons (ds_set 1 sc_law_leaves.nd rfl (by first | exact .inl rfl | exact .inr rfl) (de_mkO T.mo_Keep T.nc_Keep (by rfl) T.gc_Keep))
  (dss_cons (ds_set 2 sc_law_leaves.nd rfl (by first | exact .inl rfl | exact .inr rfl) (de_mkO T.mo_Nothing T.nc_Nothing (by rfl) T.gc_Nothing))
  (dss_cons (ds_set 3 sc_law_leaves.nd rfl (by first | exact .inl rfl | exact .inr rfl) (de_mkO T.mo_Everything T.nc_Everything (by rfl) T.gc_Everything))
  (dss_cons (ds_if (DW.pt (dw_or (dt_not (dt_val (de_call (ok_law_makes T) (hr.mono (by decide)) (by rfl) T.g_law_makes T.F_law_makes.kp T.b_law_makes (takes_of rfl rfl rfl rfl) fnD_len (da_cons (de_var 1) (da_cons (de_var 0) (da_cons (de_var 0) da_nil)))))) (dw_or1 (dt_not (dt_val (de_call (ok_law_makes T) (hr.mono (by decide)) (by rfl) T.g_law_makes T.F_law_makes.kp T.b_law_makes (takes_of rfl rfl rfl rfl) fnD_len (da_cons (de_var 2) (da_cons (de_var 0) (da_cons (de_op od_mulL (DN.de (dn_lst (da_cons (de_tup (da_cons (de_tup da_nil) (da_cons de_bl da_nil))) da_nil))) (de_callB (cd_len) (by rfl) T.z_len (by decide +kernel) (da_cons (de_var 0) da_nil))) da_nil))))))))) (dss_one (ds_ret de_bl)) dss_nil)
  (dss_cons (ds_if (dt_not (dt_val (de_call (ok_law_makes T) (hr.mono (by decide)) (by rfl) T.g_law_makes T.F_law_makes.kp T.b_law_makes (takes_of rfl rfl rfl rfl) fnD_len (da_cons (de_var 3) (da_cons (de_var 0) (da_cons (de_op od_mulL (DN.de (dn_lst (da_cons (de_tup (da_cons (de_tup da_nil) (da_cons de_bl da_nil))) da_nil))) (de_callB (cd_len) (by rfl) T.z_len (by decide +kernel) (da_cons (de_var 0) da_nil))) da_nil)))))) (dss_one (ds_ret de_bl)) dss_nil)
  (dss_cons (ds_if (DW.pt (dw_or (dt_val (de_isaIT T.isi_2 (.cons ⟨by rfl, by decide, .inl T.gc_Nothing⟩ (.own _) (by rfl) (.cons ⟨by rfl, by decide, .inl T.gc_Everything⟩ (.own _) (by rfl) .nil)) (show 2 ≤ 1000 from by decide) T.z_isinstance (by rfl) (de_var 1))) (dw_or1 (dt_val (de_isaIT T.isi_3 (.cons ⟨by rfl, by decide, .inl T.gc_Keep⟩ (.own _) (by rfl) (.cons ⟨by rfl, by decide, .inl T.gc_Everything⟩ (.own _) (by rfl) .nil)) (show 2 ≤ 1000 from by decide) T.z_isinstance (by rfl) (de_var 2)))))) (dss_one (ds_ret de_bl)) dss_nil)
  (dss_one (ds_ret (de_and (de_call (ok_law_leaf T) (hr.mono (by decide)) (by rfl) T.g_law_leaf T.F_law_leaf.kp T.b_law_leaf (takes_of rfl rfl rfl rfl) fnD_len (da_cons (de_var 1) da_nil)) (de_and (de_call (ok_law_leaf T) (hr.mono (by decide)) (by rfl) T.g_law_leaf T.F_law_leaf.kp T.b_law_leaf (takes_of rfl rfl rfl rfl) fnD_len (da_cons (de_var 2) da_nil)) (de_and (de_call (ok_law_leaf T) (hr.mono (by decide)) (by rfl) T.g_law_leaf T.F_law_leaf.kp T.b_law_leaf (takes_of rfl rfl rfl rfl) fnD_len (da_cons (de_var 3) da_nil)) (de_one (de_not (de_isaI T.isi_4 ⟨by rfl, by decide, .inl T.gc_Keep⟩ (.own _) T.z_isinstance (by rfl) (de_var 3)))))))))))))))
def D_law_moved : List D → Res D := fnD 4 2 (sRet (eTup (aCons (eCall tupleD (aCons (eLc (fun σ => ((e2 ixD (eVar 0) (eC (.int 0))) σ).bind seqOf) (gT 2 (gsCons (gN 2) (gsCons (gN 3) gsNil))) [2, 3] tYesD (eTup (aCons (e2 addD (eVar 2) (e2 ixD (eVar 1) (eC (.int 0)))) (aCons (e2 addD (eVar 3) (e2 ixD (eVar 1) (eC (.int 1)))) aNil)))) aNil)) (aCons (e2 ixD (eVar 0) (eC (.int 1))) aNil))))
theorem ok_law_moved (T : Txt K mg) : FnD P w K mg base 1 T.a_law_moved T.d_law_moved ["shape", "step"] D_law_moved := fn_mk T.F_law_moved sc_law_moved fun cdv A outer s H Ex hr =>
  (dss_one (ds_ret (de_tup (da_cons (de_callTy (cd_tuple) (by rfl) T.z_tuple (by decide +kernel) (da_cons (DN.de (dn_lc (own := [("row", 2), ("column", 3)]) (pt := (gT 2 (gsCons (gN 2) (gsCons (gN 3) gsNil)))) (ix := [2, 3]) rfl sc_law_moved.nd (di_seq (de_ix id_ix (de_var 0) de_int)) (blkOk_by (own := [("row", 2), ("column", 3)]) (N := ["shape", "step", "row", "column"]) (sc := defScope s_law_moved) (by decide +kernel)) (by decide) (fun _ _ _ _ _ => (dg_tup rfl (dgs_cons (dg_name (i := 2) sc_law_moved.nd rfl (by first | exact .inl rfl | exact .inr rfl)) (dgs_cons (dg_name (i := 3) sc_law_moved.nd rfl (by first | exact .inl rfl | exact .inr rfl)) dgs_nil)))) (fun _ _ _ _ _ => dts_nil) (fun _ _ _ _ _ => (de_tup (da_cons (de_op od_add (de_var 2) (de_ix id_ix (de_var 1) de_int)) (da_cons (de_op od_add (de_var 3) (de_ix id_ix (de_var 1) de_int)) da_nil)))))) da_nil)) (da_cons (de_ix id_ix (de_var 0) de_int) da_nil)))))
def D_law_moves : List D → Res D := fnD 8 3 (sSeq (sSet 3 (eMk2 "Move" "step" "plan" (aCons (eVar 1) (aCons (eC (.dict [(.bool true, .str "Keep")])) aNil))))
  (sSeq (sSet 4 (eMk2 "Move" "step" "plan" (aCons (eVar 2) (aCons (eVar 3) aNil))))
  (sSeq (sIf (E3.tOr (E3.tNot (E3.tB (e1 (isaI reli_0) (eVar 3)))) (E3.tB (e1 (isaI reli_5) (eVar 3)))) (sRet (eC (.bool false))) sNil)
  (sSeq (sIf (E3.tOr (E3.tNot (E3.tB (eCall (D_law_same 64) (aCons (e1 (fldI okf_step "step") (eVar 3)) (aCons (eVar 1) aNil))))) (E3.tOr (E3.tNot (E3.tB (e1 (isaI reli_4) (e1 (fldI okf_plan "plan") (eVar 3))))) (E3.tNot (E3.tB (eCall (D_law_same 64) (aCons (e1 (fldI okf_step "step") (eVar 4)) (aCons (eVar 2) aNil))))))) (sRet (eC (.bool false))) sNil)
  (sSeq (sNew 5 (eMeth0 "parts_in" [("Keep", D_Plan_parts_in), ("Nothing", D_Plan_parts_in), ("Everything", D_Plan_parts_in), ("Move", D_Move_parts_in)] (eVar 4)))
  (sSeq (sIf (E3.tOr (E3.tNot (E3.tB (e1 (isiD "list") (eVar 5)))) (E3.tOr (tB (e2 neD (eCall lenD (aCons (eVar 5) aNil)) (eC (.int 1)))) (E3.tNot (E3.tB (e1 (isaI reli_1) (e2 ixD (eVar 5) (eC (.int 0)))))))) (sRet (eC (.bool false))) sNil)
  (sSeq (sIf (E3.tOr (E3.tNot (E3.tB (eCall (D_law_same 64) (aCons (e1 (fldI okf_step "step") (e2 ixD (eVar 5) (eC (.int 0)))) (aCons (eVar 1) aNil))))) (E3.tNot (E3.tB (eCall (D_law_same 64) (aCons (e1 (fldI okf_step "step") (e1 (fldI okf_plan "plan") (eVar 4))) (aCons (eVar 1) aNil)))))) (sRet (eC (.bool false))) sNil)
  (sSeq (sMut0 5 clearM)
  (sFreeze 5 (sSeq (sIf (tB (e2 neD (eCall lenD (aCons (eMeth0 "parts_in" [("Keep", D_Plan_parts_in), ("Nothing", D_Plan_parts_in), ("Everything", D_Plan_parts_in), ("Move", D_Move_parts_in)] (eVar 4)) aNil)) (eC (.int 1)))) (sRet (eC (.bool false))) sNil)
  (sSeq (sIf (E3.tNot (E3.tB (eCall D_law_makes (aCons (eVar 3) (aCons (eVar 0) (aCons (eLc (fun σ => ((eVar 0) σ).bind seqOf) (gN 7) [7] tYesD (eCall D_law_moved (aCons (eVar 7) (aCons (eVar 1) aNil)))) aNil)))))) (sRet (eC (.bool false))) sNil)
  (sSeq (sSet 6 (eTup (aCons (e2 addD (e2 ixD (eVar 1) (eC (.int 0))) (e2 ixD (eVar 2) (eC (.int 0)))) (aCons (e2 addD (e2 ixD (eVar 1) (eC (.int 1))) (e2 ixD (eVar 2) (eC (.int 1)))) aNil))))
  (sSeq (sIf (E3.tNot (E3.tB (eCall D_law_makes (aCons (eVar 4) (aCons (eVar 0) (aCons (eLc (fun σ => ((eVar 0) σ).bind seqOf) (gN 7) [7] tYesD (eCall D_law_moved (aCons (eVar 7) (aCons (eVar 6) aNil)))) aNil)))))) (sRet (eC (.bool false))) sNil)
  (sSeq (sIf (E3.tNot (E3.tB (eCall D_law_makes (aCons (eMk2 "Move" "step" "plan" (aCons (eVar 1) (aCons (eC (.dict [(.bool true, .str "Nothing")])) aNil))) (aCons (eVar 0) (aCons (e2 mulLD (eLst (aCons (eTup (aCons (eTup aNil) (aCons (eC (.bool false)) aNil))) aNil)) (eCall lenD (aCons (eVar 0) aNil))) aNil)))))) (sRet (eC (.bool false))) sNil)
  (sRet (eCall D_law_makes (aCons (eMk2 "Move" "step" "plan" (aCons (eVar 2) (aCons (eC (.dict [(.bool true, .str "Everything")])) aNil))) (aCons (eVar 0) (aCons (e2 mulLD (eLst (aCons (eTup (aCons (eTup aNil) (aCons (eC (.bool true)) aNil))) aNil)) (eCall lenD (aCons (eVar 0) aNil))) aNil)))))))))))))))))))
theorem ok_law_moves (T : Txt K mg) : FnD P w K mg base 69 T.a_law_moves T.d_law_moves ["shapes", "step", "other"] D_law_moves := fn_mk T.F_law_moves sc_law_moves fun cdv A outer s H Ex hr =>
  (dss_cons (ds_set 3 sc_law_moves.nd rfl (by first | exact .inl rfl | exact .inr rfl) (de_mk2 T.mk_Move (oki_Move T) (hr.mono (by decide)) T.bi_Move T.nc_Move (by rfl) T.gc_Move (da_cons (de_var 1) (da_cons (de_mkO T.mo_Keep T.nc_Keep (by rfl) T.gc_Keep) da_nil))))
  (dss_cons (ds_set 4 sc_law_moves.nd rfl (by first | exact .inl rfl | exact .inr rfl) (de_mk2 T.mk_Move (oki_Move T) (hr.mono (by decide)) T.bi_Move T.nc_Move (by rfl) T.gc_Move (da_cons (de_var 2) (da_cons (de_var 3) da_nil))))
  (dss_cons (ds_if (DW.pt (dw_or (dt_not (dt_val (de_isaI T.isi_0 ⟨by rfl, by decide, .inl T.gc_Plan⟩ (.own _) T.z_isinstance (by rfl) (de_var 3)))) (dw_or1 (dt_val (de_isaIT T.isi_5 (.cons ⟨by rfl, by decide, .inl T.gc_Keep⟩ (.own _) (by rfl) (.cons ⟨by rfl, by decide, .inl T.gc_Nothing⟩ (.own _) (by rfl) (.cons ⟨by rfl, by decide, .inl T.gc_Everything⟩ (.own _) (by rfl) .nil))) (show 3 ≤ 1000 from by decide) T.z_isinstance (by rfl) (de_var 3)))))) (dss_one (ds_ret de_bl)) dss_nil)
  (dss_cons (ds_if (DW.pt (dw_or (dt_not (dt_val (de_call (ok_law_same T 64) (hr.mono (by decide)) (by rfl) T.g_law_same T.F_law_same.kp T.b_law_same (takes_of rfl rfl rfl rfl) (rec_law_same _) (da_cons (de_attr (ok := okf_step) (insok_cons T.nc_Move T.cl_Move T.na_Move_step insok_nil) (de_var 3)) (da_cons (de_var 1) da_nil))))) (dw_or (dt_not (dt_val (de_isaI T.isi_4 ⟨by rfl, by decide, .inl T.gc_Keep⟩ (.own _) T.z_isinstance (by rfl) (de_attr (ok := okf_plan) (insok_cons T.nc_Move T.cl_Move T.na_Move_plan insok_nil) (de_var 3))))) (dw_or1 (dt_not (dt_val (de_call (ok_law_same T 64) (hr.mono (by decide)) (by rfl) T.g_law_same T.F_law_same.kp T.b_law_same (takes_of rfl rfl rfl rfl) (rec_law_same _) (da_cons (de_attr (ok := okf_step) (insok_cons T.nc_Move T.cl_Move T.na_Move_step insok_nil) (de_var 4)) (da_cons (de_var 2) da_nil))))))))) (dss_one (ds_ret de_bl)) dss_nil)
  (dss_cons (ds_new 5 sc_law_moves.nd rfl (by first | exact .inl rfl | exact .inr rfl) (dn_meth0 (m := "parts_in") (.cons T.nc_Keep T.cl_Keep T.m_Keep_parts_in (ok_Plan_parts_in T) (hr.mono (by decide)) T.b_Plan_parts_in fnN_len (.cons T.nc_Nothing T.cl_Nothing T.m_Nothing_parts_in (ok_Plan_parts_in T) (hr.mono (by decide)) T.b_Plan_parts_in fnN_len (.cons T.nc_Everything T.cl_Everything T.m_Everything_parts_in (ok_Plan_parts_in T) (hr.mono (by decide)) T.b_Plan_parts_in fnN_len (.cons T.nc_Move T.cl_Move T.m_Move_parts_in (ok_Move_parts_in T) (hr.mono (by decide)) T.b_Move_parts_in fnN_len .nil)))) (takes_of rfl rfl rfl rfl) (de_var 4)))
  (dss_cons (ds_if (DW.pt (dw_or (dt_not (dt_val (de_isi tok_list T.z_isinstance (by rfl) (de_var 5) (by rfl) T.z_list (by decide +kernel)))) (dw_or (dt_cmp (od_ne (hu64 hr)) (de_callB (cd_len) (by rfl) T.z_len (by decide +kernel) (da_cons (de_var 5) da_nil)) de_int) (dw_or1 (dt_not (dt_val (de_isaI T.isi_1 ⟨by rfl, by decide, .inl T.gc_Move⟩ (.own _) T.z_isinstance (by rfl) (de_ix id_ix (de_var 5) de_int)))))))) (dss_one (ds_ret de_bl)) dss_nil)
  (dss_cons (ds_if (DW.pt (dw_or (dt_not (dt_val (de_call (ok_law_same T 64) (hr.mono (by decide)) (by rfl) T.g_law_same T.F_law_same.kp T.b_law_same (takes_of rfl rfl rfl rfl) (rec_law_same _) (da_cons (de_attr (ok := okf_step) (insok_cons T.nc_Move T.cl_Move T.na_Move_step insok_nil) (de_ix id_ix (de_var 5) de_int)) (da_cons (de_var 1) da_nil))))) (dw_or1 (dt_not (dt_val (de_call (ok_law_same T 64) (hr.mono (by decide)) (by rfl) T.g_law_same T.F_law_same.kp T.b_law_same (takes_of rfl rfl rfl rfl) (rec_law_same _) (da_cons (de_attr (ok := okf_step) (insok_cons T.nc_Move T.cl_Move T.na_Move_step insok_nil) (de_attr (ok := okf_plan) (insok_cons T.nc_Move T.cl_Move T.na_Move_plan insok_nil) (de_var 4))) (da_cons (de_var 1) da_nil)))))))) (dss_one (ds_ret de_bl)) dss_nil)
  (dss_cons (ds_mut0 5 (isv 5) md_clear (fun hm ho => pe_bm0 PySem.F.plainAttrs_list PySem.F.slot_list_clear PySem.F.type_list_clear hm ho))
  (dss_freeze 5 (dss_cons (ds_if (dt_cmp (od_ne (hu64 hr)) (de_callB (cd_len) (by rfl) T.z_len (by decide +kernel) (da_cons (de_meth0 (m := "parts_in") (.cons T.nc_Keep T.cl_Keep T.m_Keep_parts_in ((ok_Plan_parts_in T).dat) (hr.mono (by decide)) T.b_Plan_parts_in fnN_len (.cons T.nc_Nothing T.cl_Nothing T.m_Nothing_parts_in ((ok_Plan_parts_in T).dat) (hr.mono (by decide)) T.b_Plan_parts_in fnN_len (.cons T.nc_Everything T.cl_Everything T.m_Everything_parts_in ((ok_Plan_parts_in T).dat) (hr.mono (by decide)) T.b_Plan_parts_in fnN_len (.cons T.nc_Move T.cl_Move T.m_Move_parts_in ((ok_Move_parts_in T).dat) (hr.mono (by decide)) T.b_Move_parts_in fnN_len .nil)))) (takes_of rfl rfl rfl rfl) (de_var 4)) da_nil)) de_int) (dss_one (ds_ret de_bl)) dss_nil)
  (dss_cons (ds_if (dt_not (dt_val (de_call (ok_law_makes T) (hr.mono (by decide)) (by rfl) T.g_law_makes T.F_law_makes.kp T.b_law_makes (takes_of rfl rfl rfl rfl) fnD_len (da_cons (de_var 3) (da_cons (de_var 0) (da_cons (DN.de (dn_lc (own := [("shape", 7)]) (pt := (gN 7)) (ix := [7]) rfl sc_law_moves.nd (di_seq (de_var 0)) (blkOk_by (own := [("shape", 7)]) (N := ["shapes", "step", "other", "once", "twice", "inner", "sum_of", "shape"]) (sc := defScope s_law_moves) (by decide +kernel)) (by decide) (fun _ _ _ _ _ => (dg_name (i := 7) sc_law_moves.nd rfl (by first | exact .inl rfl | exact .inr rfl))) (fun _ _ _ _ _ => dts_nil) (fun _ _ _ _ _ => (de_call (ok_law_moved T) (hr.mono (by decide)) (by rfl) T.g_law_moved T.F_law_moved.kp T.b_law_moved takes0 fnD_len (da_cons (de_var 7) (da_cons (de_var 1) da_nil)))))) da_nil)))))) (dss_one (ds_ret de_bl)) dss_nil)
  (dss_cons (ds_set 6 sc_law_moves.nd rfl (by first | exact .inl rfl | exact .inr rfl) (de_tup (da_cons (de_op od_add (de_ix id_ix (de_var 1) de_int) (de_ix id_ix (de_var 2) de_int)) (da_cons (de_op od_add (de_ix id_ix (de_var 1) de_int) (de_ix id_ix (de_var 2) de_int)) da_nil))))
  (dss_cons (ds_if (dt_not (dt_val (de_call (ok_law_makes T) (hr.mono (by decide)) (by rfl) T.g_law_makes T.F_law_makes.kp T.b_law_makes (takes_of rfl rfl rfl rfl) fnD_len (da_cons (de_var 4) (da_cons (de_var 0) (da_cons (DN.de (dn_lc (own := [("shape", 7)]) (pt := (gN 7)) (ix := [7]) rfl sc_law_moves.nd (di_seq (de_var 0)) (blkOk_by (own := [("shape", 7)]) (N := ["shapes", "step", "other", "once", "twice", "inner", "sum_of", "shape"]) (sc := defScope s_law_moves) (by decide +kernel)) (by decide) (fun _ _ _ _ _ => (dg_name (i := 7) sc_law_moves.nd rfl (by first | exact .inl rfl | exact .inr rfl))) (fun _ _ _ _ _ => dts_nil) (fun _ _ _ _ _ => (de_call (ok_law_moved T) (hr.mono (by decide)) (by rfl) T.g_law_moved T.F_law_moved.kp T.b_law_moved takes0 fnD_len (da_cons (de_var 7) (da_cons (de_var 6) da_nil)))))) da_nil)))))) (dss_one (ds_ret de_bl)) dss_nil)
  (dss_cons (ds_if (dt_not (dt_val (de_call (ok_law_makes T) (hr.mono (by decide)) (by rfl) T.g_law_makes T.F_law_makes.kp T.b_law_makes (takes_of rfl rfl rfl rfl) fnD_len (da_cons (de_mk2 T.mk_Move (oki_Move T) (hr.mono (by decide)) T.bi_Move T.nc_Move (by rfl) T.gc_Move (da_cons (de_var 1) (da_cons (de_mkO T.mo_Nothing T.nc_Nothing (by rfl) T.gc_Nothing) da_nil))) (da_cons (de_var 0) (da_cons (de_op od_mulL (DN.de (dn_lst (da_cons (de_tup (da_cons (de_tup da_nil) (da_cons de_bl da_nil))) da_nil))) (de_callB (cd_len) (by rfl) T.z_len (by decide +kernel) (da_cons (de_var 0) da_nil))) da_nil)))))) (dss_one (ds_ret de_bl)) dss_nil)
  (dss_one (ds_ret (de_call (ok_law_makes T) (hr.mono (by decide)) (by rfl) T.g_law_makes T.F_law_makes.kp T.b_law_makes (takes_of rfl rfl rfl rfl) fnD_len (da_cons (de_mk2 T.mk_Move (oki_Move T) (hr.mono (by decide)) T.bi_Move T.nc_Move (by rfl) T.gc_Move (da_cons (de_var 2) (da_cons (de_mkO T.mo_Everything T.nc_Everything (by rfl) T.gc_Everything) da_nil))) (da_cons (de_var 0) (da_cons (de_op od_mulL (DN.de (dn_lst (da_cons (de_tup (da_cons (de_tup da_nil) (da_cons de_bl da_nil))) da_nil))) (de_callB (cd_len) (by rfl) T.z_len (by decide +kernel) (da_cons (de_var 0) da_nil))) da_nil))))))))))))))))))))
def I_law_1 : DS → Res (List D) := (fun σ => ((e2 addD (eVar 0) (eLst (aCons (eC (.int 3)) aNil))) σ).bind seqOf)
def B_law_1 : SF := (sSeq (sNew 2 (eLst (aCons (eCall D_law_deal (aCons (eVar 1) (aCons (eC (.int 40)) aNil))) aNil)))
  (sSeq (qSet 3 (xPot 2 D_law_shape xNil))
  (sSeq (qSet 4 (xPot 2 D_law_shape xNil))
  (sSeq (qSet 5 (xPot 2 D_law_step xNil))
  (qIf (xOr (xB (E3.tNot (E3.tB (eCall D_law_leaves (aCons (eLst (aCons (eVar 3) (aCons (eVar 4) (aCons (eVar 3) aNil)))) aNil))))) (xNot (xTB (xCall D_law_moves (xCons (xM (eLst (aCons (eVar 3) (aCons (eVar 4) (aCons (eVar 3) aNil))))) (xCons (xM (eVar 5)) (xCons (xPot 2 D_law_step xNil) xNil))))))) (sRet (eC (.bool false))) sNil)))))
def D_law : List D → Res D := fnD 6 1 (sSeq (sFor I_law_1 (gN 1)
  B_law_1)
  (sRet (eC (.bool true))))
theorem ok_law (T : Txt K mg) : FnD P w K mg base 70 T.a_law T.d_law ["script"] D_law := fn_mkQ T.F_law sc_law fun cdv A outer s H Ex hr =>
  (dqs_cons (dq_for (passes_of rfl) rfl ((di_seq (de_op od_add (de_var 0) (DN.de (dn_lst (da_cons de_int da_nil)))))) (dg_name (i := 1) sc_law.nd rfl (by first | exact .inl rfl | exact .inr rfl))
  (dqs_cons (dq_lift (ds_new 2 sc_law.nd rfl (by first | exact .inl rfl | exact .inr rfl) (dn_lst (da_cons (de_call (ok_law_deal T) (hr.mono (by decide)) (by rfl) T.g_law_deal T.F_law_deal.kp T.b_law_deal (takes_of rfl rfl rfl rfl) fnD_len (da_cons (de_var 1) (da_cons de_int da_nil))) da_nil))))
  (dqs_cons (dq_set 3 sc_law.nd rfl (by first | exact .inl rfl | exact .inr rfl) (xe_pot 2 (isv 2) (ok_law_shape T) (hr.mono (by decide)) (by rfl) T.g_law_shape T.F_law_shape.kp T.b_law_shape (takes_of rfl rfl rfl rfl) fnP_len xa_nil))
  (dqs_cons (dq_set 4 sc_law.nd rfl (by first | exact .inl rfl | exact .inr rfl) (xe_pot 2 (isv 2) (ok_law_shape T) (hr.mono (by decide)) (by rfl) T.g_law_shape T.F_law_shape.kp T.b_law_shape (takes_of rfl rfl rfl rfl) fnP_len xa_nil))
  (dqs_cons (dq_set 5 sc_law.nd rfl (by first | exact .inl rfl | exact .inr rfl) (xe_pot 2 (isv 2) (ok_law_step T) (hr.mono (by decide)) (by rfl) T.g_law_step T.F_law_step.kp T.b_law_step (takes_of rfl rfl rfl rfl) fnP_len xa_nil))
  (dqs_one (dq_if (XW.pt (xw_or (xt_view (dt_not (dt_val (de_call (ok_law_leaves T) (hr.mono (by decide)) (by rfl) T.g_law_leaves T.F_law_leaves.kp T.b_law_leaves (takes_of rfl rfl rfl rfl) fnD_len (da_cons (DN.de (dn_lst (da_cons (de_var 3) (da_cons (de_var 4) (da_cons (de_var 3) da_nil))))) da_nil))))) (xw_or1 (xt_not (xt_val (xe_call (ok_law_moves T) (hr.mono (by decide)) (by rfl) T.g_law_moves T.F_law_moves.kp T.b_law_moves (takes_of rfl rfl rfl rfl) fnD_len (xa_cons (xe_mask (DN.de (dn_lst (da_cons (de_var 3) (da_cons (de_var 4) (da_cons (de_var 3) da_nil)))))) (xa_cons (xe_mask (de_var 5)) (xa_cons (xe_pot 2 (isv 2) (ok_law_step T) (hr.mono (by decide)) (by rfl) T.g_law_step T.F_law_step.kp T.b_law_step (takes_of rfl rfl rfl rfl) fnP_len xa_nil) xa_nil))))))))) (dqs_one (dq_lift (ds_ret de_bl))) dqs_nil)))))))
  (dqs_one (dq_lift (ds_ret de_bl))))
end
end K38

namespace E3
open PySem PySem.Spec PyProof.Rows L2

def spL (K : PySem.W.Frag) (n : Nat) (F : PF) : Sp := fun vs H Q _ =>
  vs.length = n ∧ ∃ a ws R c xs ds, vs = ws ++ [.ref a] ∧ H a = some (.lst xs) ∧ R a = none ∧ RpA K R xs c ∧ Same R H ∧ RpA K R ws ds ∧ PostP K a R H Q (F c ds)
abbrev FnL (P : Program) (w : World) (K : PySem.W.Frag) (mg : Str → Option Value) (base : Heap) (k : Nat) (f : Addr) (fd : FuncData) (ps : List Str) (F : PF) : Prop :=
  FnOk P w K mg base (L2.CX P w) k f fd ps (spL K ps.length F)
def startL (N : Nat) (c : List D) (ds : List D) : SS := ds.map (fun d => some (.sh d)) ++ (some (.ow (.list c)) :: List.replicate (N - (ds.length + 1)) none)
def endL (m : Nat) : SR → Res (D × List D)
  | .ok (.rt d) σ => match σ[m]? with
    | some (some (.ow (.list c))) => .ok (d, c)
    | _ => .stuck
  | _ => .stuck
def fnL (N m : Nat) (g : SF) : PF := fun c ds => if ds.length = m then endL m (g (startL N c ds)) else .stuck
theorem fnL_len {N m : Nat} {g : SF} : ∀ c ds, ds.length ≠ m → fnL N m g c ds = .stuck := fun c ds h => if_neg h
theorem fnL_lenS {N m : Nat} {g : SF} : ∀ c ds, ds.length + 1 ≠ m + 1 → fnL N m g c ds = .stuck := fun c ds h => if_neg fun z => h (by rw [z])
theorem dqs_stuck {X : Cx} {E : WX} {ps : List Nat} {rk : RK} {sts : List Stmt} : DQs X E ps rk sts sStuck := ⟨_, pss_never, fun _ _ _ _ _ _ _ _ _ _ q => q.elim⟩
theorem startL_at {N : List Str} {a : Addr} {ws : List V} : (L2.start N (ws ++ [.ref a]))[ws.length]? = some (some (.ref a)) := by
  unfold L2.start
  rw [List.getElem?_append_left (by simp), List.getElem?_map, List.getElem?_append_right (Nat.le_refl _), Nat.sub_self]
  rfl
theorem start_roL {K : PySem.W.Frag} {N : List Str} {a : Addr} {ws : List V} {xs : List V} {c ds : List D} {R H : Hp} (s : Same R H) (hH : H a = some (.lst xs)) (hR : R a = none) (hx : RpA K R xs c) (h : RpA K R ws ds) :
    RO K R (less H a) R H (startL N.length c ds) (L2.start N (ws ++ [.ref a])) := by
  have hl := h.length
  have sh : ∀ (i : Nat) (z : Slot), (startL N.length c ds)[i]? = some (some z) → (i = ds.length ∧ z = .ow (.list c)) ∨ ∃ d, i < ds.length ∧ ds[i]? = some d ∧ z = .sh d := fun i z q => by
    unfold startL at q
    by_cases hi : i < ds.length
    · right
      rw [List.getElem?_append_left (by rw [List.length_map]; exact hi), List.getElem?_map, List.getElem?_eq_getElem hi] at q
      cases q
      exact ⟨_, hi, List.getElem?_eq_getElem hi, rfl⟩
    · left
      rw [List.getElem?_append_right (by rw [List.length_map]; omega), List.length_map] at q
      by_cases he : i = ds.length
      · subst he
        rw [Nat.sub_self] at q
        cases q
        exact ⟨rfl, rfl⟩
      · obtain ⟨j, hj⟩ : ∃ j, i - ds.length = j + 1 := ⟨i - ds.length - 1, by omega⟩
        rw [hj, List.getElem?_cons_succ] at q
        have := List.mem_of_getElem? q
        rw [List.mem_replicate] at this
        cases this.2
  have zero : (L2.start N (ws ++ [.ref a]))[ds.length]? = some (some (.ref a)) := by rw [← hl]; exact startL_at
  have sl : Same (less H a) H := fun b o e => by
    by_cases nb : b = a
    · rw [nb, less_at] at e; cases e
    · rw [less_ne nb] at e; exact e
  refine ⟨⟨Same.refl _, s, sl, fun _ _ h => .inl h⟩, fun i d q => ?_, fun i d q => ?_, fun i j d e b q1 q2 _ _ => ?_, ?_⟩
  · rcases sh i _ q with ⟨_, z⟩ | ⟨d', hi, h1, h2⟩
    · cases z
    · cases h2
      obtain ⟨v, z1, z2⟩ := h.get h1
      refine ⟨v, ?_, z2⟩
      unfold L2.start
      have hv : i < ws.length := (List.getElem?_eq_some_iff.mp z1).1
      rw [List.getElem?_append_left (by simp; omega), List.getElem?_map, List.getElem?_append_left hv, z1]
      rfl
  · rcases sh i _ q with ⟨rfl, z⟩ | ⟨d', _, _, z⟩
    · cases z
      exact ⟨a, zero, hR, less_at, xs, hH, hx⟩
    · cases z
  · rcases sh i _ q1 with ⟨rfl, z⟩ | ⟨_, _, _, z⟩
    · rcases sh j _ q2 with ⟨rfl, z⟩ | ⟨_, _, _, z⟩
      · rfl
      · cases z
    · cases z
  · unfold startL L2.start
    simp [hl]
section
variable {P : Program} {w : World} {K : PySem.W.Frag} {mg : Str → Option Value} {base : Heap}
theorem fn_mkL {x qual : Str} {st : Stmt} {f : Addr} {fd : FuncData} {N ps : List Str} {k m : Nat} {g : SF} (F : Fun K x qual st f fd) (S : FnScope N ps (defScope st)) (hm : ps.length = m + 1)
    (hb : ∀ (cdv : Value) (A : Around) (outer : List Env) (s : Shared) (H : Hp) (Ex : XK), Room k (A.deeper (envOfC qual (defScope st) s.heap.objs.size f cdv)) →
      DQs (cxOf (L2.CX P w) P w K mg base N qual (defScope st) f cdv A outer s H Ex) (fun c d _ H => Ex c d H) [m] (.pot m) (defBody st) g) :
    FnL P w K mg base (k + 1) f fd ps (fnL N.length m g) := by
  refine F.okX S (fun vs H Q Ex h => h.1) (fun cdv A outer s H vs Q Ex hr h => ?_)
  obtain ⟨hl, a, ws, R, c, xs, ds, rfl, hH, hR, hx, sR, hv, q⟩ := h
  have hws : ws.length = m := by
    rw [List.length_append, List.length_singleton] at hl
    omega
  have hds : ds.length = m := by rw [← hv.length]; exact hws
  obtain ⟨t, t1, t2⟩ := hb cdv A outer s H Ex hr
  have zero : (L2.start N (ws ++ [.ref a]))[m]? = some (some (.ref a)) := by rw [← hws]; exact startL_at
  refine ⟨t, t1, t2 R (less H a) (L2.start N (ws ++ [(.ref a : V)])) (startL N.length c ds) (L2.start N (ws ++ [(.ref a : V)])) R H _ (start_roL (N := N) sR hH hR hx hv) (fun _ _ => rfl) ?_⟩
  unfold fnL at q
  rw [if_pos hds] at q
  cases z : g (startL N.length c ds) with
  | ok o σ =>
    rw [z] at q
    cases o with
    | nx => exact q.elim
    | bk => exact q.elim
    | ct => exact q.elim
    | rt d =>
      rintro v R' H' τ' ⟨J, x2, x3⟩
      have q' : PostP K a R H Q (match σ[m]? with
        | some (some (.ow (.list c))) => .ok (d, c)
        | _ => .stuck) := q
      split at q'
      · rename_i c' hc'
        obtain ⟨b, y1, y2, y3, ys, y4, y5⟩ := J.ow m _ hc'
        rw [x2] at y1
        rw [zero] at y1
        cases y1
        exact q' v R' H' ys J.ext y2 y4 y5 x3
      · exact q'.elim
  | exc e σ => rw [z] at q; exact q.elim
  | stuck => rw [z] at q; exact q.elim
end
def rL (K : PySem.W.Frag) (i : Nat) (τ : L2.St) : Hp → List V → List D → Prop := fun R vs ds => ∃ ws a, vs = ws ++ [.ref a] ∧ τ[i]? = some (some (.ref a)) ∧ RpA K R ws ds
structure XL (X : Cx) (E : WX) (i : Nat) (es : List Expr) (f : SS → XR (List D)) : Prop where
  run : ∃ t : TA, PA X es t ∧ ∀ (R0 H0 : Hp) (σ : SS) (τ : L2.St) (R H : Hp) (Q : List V → Hp → Prop), RO X.K R0 H0 R H σ τ → XPost X E (rL X.K i τ) R0 H0 R τ Q (f σ) → t τ H Q
def xLast (i : Nat) : SS → XR (List D) := fun σ => ownX i σ (.ok [] σ)
def xPotL (i : Nat) (F : PF) (g : SS → XR (List D)) : SS → XR D := fun σ => (g σ).bind fun ds σ => potK i σ fun c => F c ds
section
variable {X : Cx} {E : WX} {e : Expr} {es : List Expr} {f : SS → XR D} {ga : SS → XR (List D)} {pos p1 np : Pos} {k : Nat} {fa : Addr} {fd : FuncData} {ps : List Str} {F : PF} {x y : Str} {i : Nat}
theorem xl_last (hv : IsV X i y np) (hs : starEach [.Name y np] X.env = (false, eval (.Name y np) X.env) :: starEach [] X.env := by rfl) : XL X E i [.Name y np] (xLast i) := by
  refine ⟨_, pa_cons hv pa_nil hs, fun R0 H0 σ τ R H Q I h => ?_⟩
  unfold xLast ownX at h
  split at h
  · rename_i c0 hc0
    obtain ⟨a, ht, _, _, _⟩ := I.ow i _ hc0
    exact ⟨_, ht, xnow (rel := rL X.K i τ) (v := [.ref a]) I ⟨[], a, rfl, ht, .nil⟩ h⟩
  · exact h.elim
theorem xl_cons (ha : XE X E e f) (hr : XL X E i es ga) (hs : starEach (e :: es) X.env = (false, eval e X.env) :: starEach es X.env := by rfl) : XL X E i (e :: es) (xCons f ga) := by
  obtain ⟨t, h1, h2⟩ := ha
  obtain ⟨u, h3, h4⟩ := hr
  refine ⟨_, pa_cons h1 h3 hs, fun R0 H0 σ τ R H Q I h => h2 R0 H0 σ τ R H _ I (xbind h fun x v σ1 R1 H1 s1 I1 q1 k => ?_)⟩
  refine h4 R0 H0 σ1 τ R1 H1 _ I1 (xbind k fun xs vs σ2 R2 H2 s2 I2 q2 k2 => ?_)
  obtain ⟨ws, a, rfl, ht, q3⟩ := q2
  exact xnow (v := v :: (ws ++ [.ref a])) I2 ⟨v :: ws, a, rfl, ht, RpA.cons (q1.mono s2) q3⟩ k2
theorem xe_potL (i : Nat) (G : FnL X.prog X.w X.K X.mg X.base k fa fd ps F) (hr : Room k X.A) (hg : Gl X x) (hm : X.mg x = some (.ref fa)) (hk : PySem.W.keepIn X.K (.ref fa) = true) (hb : Binds X.K fd ps []) (tk : Takes X E)
    (hF : ∀ c ds, ds.length + 1 ≠ ps.length → F c ds = .stuck) (ha : XL X E i (e :: es) ga) (hdb : (x == ("__debug__" : Str)) = false := by decide)
    (hst : starEach (e :: es) X.env = (false, eval e X.env) :: starEach es X.env := by rfl) (hpl : (backTo pos (starEach es X.env)).any (·.1) = false := by rfl) :
    XE X E (.Call (.Name x p1) (e :: es) [] pos) (xPotL i F ga) := by
  obtain ⟨t, a1, a2⟩ := ha
  refine ⟨_, pe_callS (E := fun σ c d H => E c d σ H) G hr hg hm hk hb (fun σ => passAt tk σ) a1 hdb hst hpl, fun R0 H0 σ τ R H Q I h => ?_⟩
  unfold xPotL at h
  refine a2 R0 H0 σ τ R H _ I (xbind h fun ds vs σ1 R1 H1 s1 I1 q1 h1 => ?_)
  obtain ⟨ws, a, rfl, ht, q1⟩ := q1
  unfold potK at h1
  split at h1
  · rename_i c hc
    obtain ⟨a', ht', r2, r3, xs, r4, r5⟩ := I1.ow i _ hc
    rw [ht] at ht'; cases ht'
    cases z : F c ds with
    | ok dc =>
      obtain ⟨d, c'⟩ := dc
      dsimp only at h1
      rw [z] at h1
      have hl : ds.length + 1 = ps.length := by
        by_cases hl : ds.length + 1 = ps.length
        · exact hl
        · rw [hF c ds hl] at z; cases z
      refine ⟨by rw [List.length_append, List.length_singleton, q1.length]; exact hl, a, ws, R1, c, xs, ds, rfl, r4, r2, r5, I1.ext.sub, q1, ?_⟩
      rw [z]
      exact fun v R' H' ys x2 n1 n2 n3 n4 => h1 v R' H' x2.rr (I1.pot hc ht x2 n1 n2 n3) n4
    | exc _ => dsimp only at h1; rw [z] at h1; exact h1.elim
    | stuck => dsimp only at h1; rw [z] at h1; exact h1.elim
  · exact h1.elim
end
section
variable {X : Cx} {E : WX} {ps : List Nat} {rk : RK} {tg iter elt : Expr} {ifs : List Expr} {scope : Scope} {pos : Pos} {own : List (Str × Nat)} {ix : List Nat} {it : DS → Res (List D)} {pt : GF} {c : DS → Res Bool} {f : DS → Res D}
theorem dq_setLc (i : Nat) {y : Str} {py spos : Pos} (hc : X.calm = true) (hN : X.N.Nodup) (hy : X.N[i]? = some y) (hyl : X.env.scope.names.lookup y = some .local)
    (hsw : swapsWith (.ListComp elt [⟨tg, iter, ifs, 0⟩] scope pos) (some (.Name y py)) spos.line X.env = pure true) (hi : DI X E tg iter it) (ok : BlkOk X.N X.env.scope scope own) (hv : ∀ i ∈ ix, i ∈ own.map (·.2))
    (hg : ∀ (s : Shared) (H : Hp) (C : Addr) (cl : List (Str × Addr)) (fp : List Addr), DG (X.blk s H scope (compEnvC scope cl C X.env) fp) tg ix pt)
    (ht : ∀ (s : Shared) (H : Hp) (C : Addr) (cl : List (Str × Addr)) (fp : List Addr), DTs (X.blk s H scope (compEnvC scope cl C X.env) fp) E00 ifs c)
    (he : ∀ (s : Shared) (H : Hp) (C : Addr) (cl : List (Str × Addr)) (fp : List Addr), DE (X.blk s H scope (compEnvC scope cl C X.env) fp) E00 elt f) (hp : i ∉ ps := by decide)
    (hs : ∀ x, foldedSetIterable iter X.env x = pure x := by intro _; rfl) :
    DQ1 X E ps rk (.Assign [.Name y py] (.ListComp elt [⟨tg, iter, ifs, 0⟩] scope pos) spos) (sSet i (eLc it pt (own.map (·.2)) c f)) := by
  obtain ⟨wi, i1, i2⟩ := hi
  refine ⟨_, ps_setLc (g := TFG X.K ix pt) (tt := TFT X.K X.mg E00 c) (te := TF X.K X.mg E00 f) hc hN hy hyl hsw i1 ok (fun s H C cl fp => (hg s H C cl fp).pg) (fun s H C cl fp => (ht s H C cl fp).pts) (fun s H C cl fp => (he s H C cl fp).pe) hs, fun R0 H0 τ0 σ τ R H Dn I F q => ?_⟩
  refine lc_run (K := X.K) (mg := X.mg) (Ex := fun τ => xat E τ) i2 hv (fun R0 H0 d v σ σ' τ R H Q a b c q => ⟨R0, H0, d, σ, σ', R, a, b, c, q⟩) (fun σ τ R H Q a b c => ⟨σ, R, a, b, c⟩) (fun σ τ R H Q a b c => ⟨σ, R, a, b, c⟩) I.mask I.ext.sub (Post.toN ?_)
  unfold sSet at q
  cases z : eLc it pt (own.map (·.2)) c f (mask σ) with
  | ok d =>
    rw [z] at q
    exact fun v R' H' x r => q R' H' _ ((I.step x).put r) (F.set hp)
  | exc x => rw [z] at q; exact fun c dx H' s y => q c dx R H' τ (I.same s) (y.back I.ext.hh)
  | stuck => rw [z] at q; exact q
end
end E3

namespace E3
open PySem PySem.Spec PyProof.Rows L2
local macro_rules | `(tactic| walk_at "ev") => `(tactic| simp only [fnD, startF, endF, sSeq, sAsg, sSet, sSetV, sAsgV, sIf, sRet, sNew, sMut, sMutV, sFor, sForR, sFreeze, sNil, optK, thenR_ok, thenR_exc, thenR_stuck,
  view, mask, eVar, eC, e1, e2, eCall, eTup, eLst, eSl, oNone, oSome, eAnd, eOr, eIf, E3.tAnd, E3.tOr, E3.tNot, E3.tB, asB, notD, aNil, aCons, Res.bind_ok, Res.bind_exc, Res.bind_stuck,
  gT, gsCons, gsNil, gN, tupD, lstD, Slot.dat, Slot.shd, List.length_cons, List.length_nil, List.map_cons, List.map_nil, List.replicate, List.append_nil, List.cons_append, List.nil_append, Option.map_some, Option.map_none, Option.bind_some, Option.bind_none,
  List.getElem?_cons_zero, List.getElem?_cons_succ, List.set_cons_zero, List.set_cons_succ, Nat.reduceAdd, Nat.reduceSub, Nat.reduceEqDiff, if_true, if_false, ite_true, ite_false, reduceIte, decide_true, decide_false, reduceCtorEq])
abbrev cell (r c : Int) : D := .tuple [.int r, .int c]
theorem at2_0 (a b : D) : L2.atI [a, b] 0 = some a := rfl
theorem at2_1 (a b : D) : L2.atI [a, b] 1 = some b := rfl
theorem ix_cell0 (a b : D) : ixD (.tuple [a, b]) (.int 0) = .ok a := rfl
theorem ix_cell1 (a b : D) : ixD (.tuple [a, b]) (.int 1) = .ok b := rfl
theorem tup2 (a b : D) : tupD [a, b] = .ok (.tuple [a, b]) := rfl
theorem addI (i j : Int) : addD (.int i) (.int j) = .ok (.int (i + j)) := rfl
theorem subI (i j : Int) : subD (.int i) (.int j) = .ok (.int (i - j)) := rfl
theorem ltI (i j : Int) : ltD (.int i) (.int j) = .ok (.bool (decide (i < j))) := rfl
theorem leI (i j : Int) : leD (.int i) (.int j) = .ok (.bool (decide (i ≤ j))) := rfl
theorem gtI (i j : Int) : gtD (.int i) (.int j) = .ok (.bool (decide (j < i))) := rfl
theorem geI (i j : Int) : geD (.int i) (.int j) = .ok (.bool (decide (j ≤ i))) := rfl
theorem iop_ok {c : Int → Int → Bool} {g : Int → Int → D} {i j : Int} (h : c i j = true) : iop c g (.int i) (.int j) = .ok (g i j) := by
  show (if _ then _ else _) = _
  rw [if_pos h]
theorem powI {i j : Int} (h : decide (0 ≤ j ∧ j ≤ 1000000 ∧ i.natAbs < 2 ^ 64) = true) : powD (.int i) (.int j) = .ok (.int (i ^ j.toNat)) := iop_ok h
theorem mulI {i j : Int} (a b : Nat) (hi : i.natAbs < 2 ^ a) (hj : j.natAbs < 2 ^ b) (h : a + b < 1000000) : mulD (.int i) (.int j) = .ok (.int (i * j)) :=
  iop_ok (decide_eq_true (by
    have lg : ∀ n k : Nat, n < 2 ^ k → n.log2 ≤ k := fun n k h => by
      by_cases z : n = 0
      · subst z; simp
      · exact Nat.le_of_lt ((Nat.log2_lt z).mpr h)
    have := lg _ _ hi
    have := lg _ _ hj
    omega))
theorem modI {i j : Int} (h : 0 < j) : modD (.int i) (.int j) = .ok (.int (i % j)) := iop_ok (decide_eq_true h)
theorem fdivI {i j : Int} (h : 0 < j) (h2 : j.natAbs.log2 < 9000) : fdivD (.int i) (.int j) = .ok (.int (i / j)) := iop_ok (decide_eq_true ⟨h, h2⟩)
theorem divmodI {i j : Int} (h : 0 < j) (h2 : j.natAbs.log2 < 9000) : divmodD [.int i, .int j] = .ok (.tuple [.int (i / j), .int (i % j)]) := by
  show (if _ then _ else _) = _
  rw [if_pos ⟨h, h2⟩]
theorem log2_lt {j : Int} (k : Nat) (h : j.natAbs < 2 ^ k) (hk : k ≤ 9000) (h0 : 0 < j) : j.natAbs.log2 < 9000 := by
  have : j.natAbs ≠ 0 := by omega
  have := (Nat.log2_lt this).mpr h
  omega
def dealB : SF := (sSeq (sSet 3 (e2 modD (e2 addD (e2 addD (e2 mulD (eVar 3) (eC (.int 48271))) (eVar 4)) (eC (.int 1))) (eC (.int 2147483647))))
  (sSeq (sSet 5 (e2 modD (e2 mulD (eVar 3) (eVar 3)) (eC (.int 2147483629))))
  (sSet 2 (e2 addD (e2 mulD (eVar 2) (eC (.int 999983))) (e2 modD (e2 addD (e2 fdivD (eVar 5) (eC (.int 1021))) (eVar 5)) (eC (.int 999983)))))))
def lawDeal : List D → Res D := fnD 6 2 (sSeq (sIf (tB (e2 geD (eVar 0) (e2 powD (eC (.int 10)) (eC (.int 18))))) (sRet (e2 subD (eVar 0) (e2 powD (eC (.int 10)) (eC (.int 18))))) sNil)
  (sSeq (sSet 2 (eC (.int 0)))
  (sSeq (sSet 3 (e2 modD (e2 mulD (e2 addD (e2 modD (eVar 0) (eC (.int 2147483647))) (eC (.int 977))) (eC (.int 69621))) (eC (.int 2147483647))))
  (sSeq (sFor (fun σ => ((aCons (eVar 1) aNil) σ).bind rng1) (gN 4) dealB)
  (sRet (eVar 2))))))
theorem deal_turn (c m k number one : Int) (x4 x5 : Option Slot) (b : Nat) (h0 : 0 ≤ number) (hb : number < 2 ^ b) (ho : 0 ≤ one ∧ one < 2147483647) (hl : b + 20 < 999990) :
    ∃ number' one' : Int, ∃ x5' : Option Slot, 0 ≤ number' ∧ number' < 2 ^ (b + 20) ∧ (0 ≤ one' ∧ one' < 2147483647) ∧
      dealB [some (.sh (.int c)), some (.sh (.int m)), some (.sh (.int number)), some (.sh (.int one)), some (.sh (.int k)), x5]
      = .ok .nx [some (.sh (.int c)), some (.sh (.int m)), some (.sh (.int number')), some (.sh (.int one')), some (.sh (.int k)), x5'] := by
  unfold dealB
  walk_at "ev"
  rw [mulI 32 20 (by omega) (by decide) (by decide)]
  walk_at "ev"
  simp only [addI, Res.bind_ok]
  rw [modI (by decide)]
  walk_at "ev"
  have hm : 0 ≤ (one * 48271 + k + 1) % 2147483647 ∧ (one * 48271 + k + 1) % 2147483647 < 2147483647 := ⟨Int.emod_nonneg _ (by decide), Int.emod_lt_of_pos _ (by decide)⟩
  generalize (one * 48271 + k + 1) % 2147483647 = o at hm ⊢
  rw [mulI 32 32 (by omega) (by omega) (by decide)]
  walk_at "ev"
  rw [modI (by decide)]
  walk_at "ev"
  have hm2 : 0 ≤ o * o % 2147483629 ∧ o * o % 2147483629 < 2147483629 := ⟨Int.emod_nonneg _ (by decide), Int.emod_lt_of_pos _ (by decide)⟩
  generalize o * o % 2147483629 = t at hm2 ⊢
  rw [mulI b 20 (by have : ((number.natAbs : Nat) : Int) = number := by omega
                    have h2 : ((number.natAbs : Nat) : Int) < ((2 ^ b : Nat) : Int) := by rw [this]; simpa using hb
                    exact_mod_cast h2) (by decide) (by omega)]
  walk_at "ev"
  rw [fdivI (by decide) (by decide +kernel)]
  walk_at "ev"
  simp only [addI, Res.bind_ok]
  rw [modI (by decide)]
  walk_at "ev"
  simp only [addI, Res.bind_ok]
  have hm3 : 0 ≤ (t / 1021 + t) % 999983 ∧ (t / 1021 + t) % 999983 < 999983 := ⟨Int.emod_nonneg _ (by decide), Int.emod_lt_of_pos _ (by decide)⟩
  generalize (t / 1021 + t) % 999983 = u at hm3 ⊢
  walk_at "ev"
  refine ⟨_, _, _, ?_, ?_, hm, rfl⟩
  · omega
  · have : (2 : Int) ^ (b + 20) = 2 ^ b * 1048576 := by rw [Int.pow_add]; rfl
    omega
theorem deal_loop (c m : Int) : ∀ (ks : List Int) (number one : Int) (x4 x5 : Option Slot) (b : Nat), 0 ≤ number → number < 2 ^ b → (0 ≤ one ∧ one < 2147483647) → b + 20 * ks.length < 999990 →
    ∃ number' one' : Int, ∃ x4' x5' : Option Slot, 0 ≤ number' ∧ number' < 2 ^ (b + 20 * ks.length) ∧
      forS (gN 4) dealB (ks.map .int) [some (.sh (.int c)), some (.sh (.int m)), some (.sh (.int number)), some (.sh (.int one)), x4, x5]
      = .ok .nx [some (.sh (.int c)), some (.sh (.int m)), some (.sh (.int number')), some (.sh (.int one')), x4', x5']
  | [], number, one, x4, x5, b, h0, hb, ho, hl => ⟨number, one, x4, x5, h0, hb, rfl⟩
  | k :: ks, number, one, x4, x5, b, h0, hb, ho, hl => by
    rw [List.length_cons] at hl
    obtain ⟨n1, o1, y5, g0, gb, go, e⟩ := deal_turn c m k number one x4 x5 b h0 hb ho (by omega)
    obtain ⟨n2, o2, z4, z5, k0, kb, f⟩ := deal_loop c m ks n1 o1 (some (.sh (.int k))) y5 (b + 20) g0 gb go (by omega)
    refine ⟨n2, o2, z4, z5, k0, ?_, ?_⟩
    · rw [List.length_cons]
      have : b + 20 * (ks.length + 1) = b + 20 + 20 * ks.length := by omega
      rw [this]; exact kb
    · rw [List.map_cons]
      unfold forS
      show (match dealB [some (.sh (.int c)), some (.sh (.int m)), some (.sh (.int number)), some (.sh (.int one)), some (.sh (.int k)), x5] with
        | .ok .nx σ2 => forS (gN 4) dealB (ks.map .int) σ2
        | .ok .ct σ2 => forS (gN 4) dealB (ks.map .int) σ2
        | .ok .bk σ2 => .ok .nx σ2
        | .ok (.rt v) σ2 => .ok (.rt v) σ2
        | .exc x σ2 => .exc x σ2
        | .stuck => .stuck) = _
      rw [e]
      exact f
theorem rangeD_map (n : Int) : rangeD 0 n = ((List.range n.toNat).map fun (i : Nat) => (i : Int)).map .int := by
  unfold rangeD
  rw [List.map_map]
  simp only [Int.sub_zero]
  apply List.map_congr_left
  intro i _
  simp
theorem deal_ok (c m : Int) (hm : 0 ≤ m) (hm2 : m < 49000) : ∃ n : Int, 0 ≤ n ∧ lawDeal [.int c, .int m] = .ok (.int n) := by
  unfold lawDeal
  walk_at "ev"
  have p : powD (.int 10) (.int 18) = .ok (.int (10 ^ 18)) := powI (by decide +kernel)
  simp only [p, Res.bind_ok, geI, subI, thenR_ok]
  by_cases h : (10 : Int) ^ 18 ≤ c
  · simp only [decide_eq_true h]
    walk_at "ev"
    exact ⟨_, by omega, rfl⟩
  · simp only [decide_eq_false h]
    walk_at "ev"
    rw [modI (by decide)]
    simp only [addI, Res.bind_ok]
    have hq : 0 ≤ c % 2147483647 ∧ c % 2147483647 < 2147483647 := ⟨Int.emod_nonneg _ (by decide), Int.emod_lt_of_pos _ (by decide)⟩
    generalize c % 2147483647 = q at hq ⊢
    rw [mulI 33 20 (by omega) (by decide) (by decide)]
    walk_at "ev"
    rw [modI (by decide)]
    walk_at "ev"
    have hr : rng1 [.int m] = .ok (rangeD 0 m) := by
      show (if _ then _ else _) = _
      rw [if_pos ⟨by omega, by omega⟩]
    simp only [hr, Res.bind_ok, thenR_ok, rangeD_map]
    have ho : 0 ≤ (q + 977) * 69621 % 2147483647 ∧ (q + 977) * 69621 % 2147483647 < 2147483647 := ⟨Int.emod_nonneg _ (by decide), Int.emod_lt_of_pos _ (by decide)⟩
    obtain ⟨n2, o2, z4, z5, k0, kb, f⟩ := deal_loop c m ((List.range m.toNat).map fun (i : Nat) => (i : Int)) 0 _ none none 1 (by decide) (by decide) ho (by rw [List.length_map, List.length_range]; omega)
    rw [f]
    exact ⟨n2, k0, rfl⟩
end E3

namespace E3
open PySem PySem.Spec PyProof.Rows L2
local macro_rules | `(tactic| walk_at "ev") => `(tactic| simp only [fnD, startF, endF, sSeq, sAsg, sSet, sSetV, sAsgV, sIf, sRet, sNew, sMut, sMutV, sFor, sForR, sFreeze, sNil, optK, thenR_ok, thenR_exc, thenR_stuck,
  view, mask, eVar, eC, e1, e2, eCall, eTup, eLst, eSl, oNone, oSome, eAnd, eOr, eIf, E3.tAnd, E3.tOr, E3.tNot, E3.tB, asB, notD, aNil, aCons, Res.bind_ok, Res.bind_exc, Res.bind_stuck,
  gT, gsCons, gsNil, gN, tupD, lstD, Slot.dat, Slot.shd, List.length_cons, List.length_nil, List.map_cons, List.map_nil, List.replicate, List.append_nil, List.cons_append, List.nil_append, Option.map_some, Option.map_none, Option.bind_some, Option.bind_none,
  List.getElem?_cons_zero, List.getElem?_cons_succ, List.set_cons_zero, List.set_cons_succ, Nat.reduceAdd, Nat.reduceSub, Nat.reduceEqDiff, if_true, if_false, ite_true, ite_false, reduceIte, decide_true, decide_false, reduceCtorEq])
theorem eqI (i j : Int) : eqD (.int i) (.int j) = .ok (.bool (i == j)) := rfl
theorem neI (i j : Int) : neD (.int i) (.int j) = .ok (.bool (!(i == j))) := rfl
theorem eqD_refl {d : D} (h : SeqAt.shaped d = true) : eqD d d = .ok (.bool true) := by
  unfold eqD
  rw [h, SeqAt.eqv_refl d (SeqAt.canLay_of_shaped h)]; rfl
theorem neD_refl {d : D} (h : SeqAt.shaped d = true) : neD d d = .ok (.bool false) := by
  unfold neD
  rw [h, SeqAt.eqv_refl d (SeqAt.canLay_of_shaped h)]; rfl
def lawSpot : List D → Res D := fnD 6 2 (sSeq (sAsg (gT 2 (gsCons (gN 0) (gsCons (gN 2) gsNil))) (eCall divmodD (aCons (eVar 0) (aCons (eC (.int 6)) aNil))))
  (sSeq (sSet 3 (e2 ixD (eLst (aCons (eC (.int 4)) (aCons (eC (.int 4)) (aCons (eC (.int 6)) (aCons (eC (.int 3)) (aCons (e2 addD (e2 mulD (eC (.int 2)) (eVar 1)) (eC (.int 1))) (aCons (eC (.int 3)) aNil))))))) (eVar 2)))
  (sSeq (sAsg (gT 2 (gsCons (gN 0) (gsCons (gN 4) gsNil))) (eCall divmodD (aCons (eVar 0) (aCons (eVar 3) aNil))))
  (sSeq (sAsg (gT 2 (gsCons (gN 0) (gsCons (gN 5) gsNil))) (eCall divmodD (aCons (eVar 0) (aCons (eVar 3) aNil))))
  (sSeq (sIf (tB (e2 eqD (eVar 2) (eC (.int 4)))) (sRet (eTup (aCons (eVar 0) (aCons (eTup (aCons (e2 subD (eVar 4) (eVar 1)) (aCons (e2 subD (eVar 5) (eVar 1)) aNil))) aNil)))) sNil)
  (sSeq (sIf (tB (e2 eqD (eVar 2) (eC (.int 5)))) (sRet (eTup (aCons (eVar 0) (aCons (eTup (aCons (e2 subD (eVar 1) (eVar 4)) (aCons (e2 subD (eVar 5) (eVar 1)) aNil))) aNil)))) sNil)
  (sRet (eTup (aCons (eVar 0) (aCons (eTup (aCons (e2 subD (eVar 4) (eC (.int 1))) (aCons (e2 subD (eVar 5) (eC (.int 2))) aNil))) aNil))))))))))
theorem ix6 (a b c d e f : D) (w : Int) : ixD (.list [a, b, c, d, e, f]) (.int w) = optR (L2.atI [a, b, c, d, e, f] w) := rfl
theorem spot_ok (number far : Int) (h0 : 0 ≤ number) (hf : 4 ≤ far) (hF : far < 2 ^ 100) :
    ∃ n r c : Int, 0 ≤ n ∧ n ≤ number ∧ (-far ≤ r ∧ r ≤ far) ∧ (-far ≤ c ∧ c ≤ far) ∧ lawSpot [.int number, .int far] = .ok (.tuple [.int n, cell r c]) := by
  have s0 : 0 ≤ number / 6 ∧ number / 6 ≤ number := by omega
  have w0 : 0 ≤ number % 6 ∧ number % 6 < 6 := by omega
  have p102 : (2 : Int) ^ 102 = 5070602400912917605986812821504 := by decide +kernel
  have n102 : (2 : Nat) ^ 102 = 5070602400912917605986812821504 := by decide +kernel
  have p100 : (2 : Int) ^ 100 = 1267650600228229401496703205376 := by decide +kernel
  have n100 : (2 : Nat) ^ 100 = 1267650600228229401496703205376 := by decide +kernel
  have key : ∀ s : Int, 0 < s → s < 2 ^ 102 → ∃ n r c : Int, (0 ≤ n ∧ n ≤ number) ∧ (0 ≤ r ∧ r < s) ∧ (0 ≤ c ∧ c < s) ∧ divmodD [.int (number / 6), .int s] = .ok (.tuple [.int (number / 6 / s), .int r]) ∧ divmodD [.int (number / 6 / s), .int s] = .ok (.tuple [.int n, .int c]) := fun s h1 h2 => by
    have hb : s.natAbs < 2 ^ 102 := by omega
    have hl : s.natAbs.log2 < 9000 := log2_lt 102 hb (by decide) h1
    have q0 : 0 ≤ number / 6 / s := Int.ediv_nonneg s0.1 (by omega)
    have q1 : number / 6 / s ≤ number / 6 := Int.ediv_le_self _ s0.1
    have q2 : number / 6 / s / s ≤ number / 6 / s := Int.ediv_le_self _ q0
    exact ⟨_, _, _, ⟨Int.ediv_nonneg q0 (by omega), by omega⟩, ⟨Int.emod_nonneg _ (by omega), Int.emod_lt_of_pos _ h1⟩, ⟨Int.emod_nonneg _ (by omega), Int.emod_lt_of_pos _ h1⟩, divmodI h1 hl, divmodI h1 hl⟩
  have hfb : far.natAbs < 2 ^ 100 := by omega
  generalize hw : number % 6 = w at w0
  have fin : ∀ s : Int, 0 < s → s < 2 ^ 102 → L2.atI [PyData.int 4, .int 4, .int 6, .int 3, .int (2 * far + 1), .int 3] w = some (.int s) → (w = 4 → s = 2 * far + 1) → (w = 5 → s = 3) → (w ≠ 4 → w ≠ 5 → s ≤ 6) →
      ∃ n r c : Int, 0 ≤ n ∧ n ≤ number ∧ (-far ≤ r ∧ r ≤ far) ∧ (-far ≤ c ∧ c ≤ far) ∧ lawSpot [.int number, .int far] = .ok (.tuple [.int n, cell r c]) := by
    intro s h1 h2 h3 h4 h5 h6
    obtain ⟨n, r, c, hn, hr, hc, e1, e2⟩ := key s h1 h2
    unfold lawSpot
    walk_at "ev"
    rw [divmodI (by decide) (by decide +kernel)]
    walk_at "ev"
    rw [mulI 2 100 (by decide) hfb (by decide)]
    walk_at "ev"
    simp only [addI, Res.bind_ok]
    walk_at "ev"
    rw [hw]
    have le6 : (6 : Nat) ≤ sizeLine := by decide
    have le2 : (2 : Nat) ≤ sizeLine := by decide
    simp only [le6, if_true, Res.bind_ok, ix6, h3, optR, thenR_ok]
    walk_at "ev"
    simp only [e1, thenR_ok]
    walk_at "ev"
    simp only [e2, thenR_ok]
    walk_at "ev"
    simp only [eqI, Res.bind_ok, thenR_ok]
    by_cases h4' : w = 4
    · subst h4'
      have := h4 rfl
      simp only [beq_self_eq_true]
      walk_at "ev"
      simp only [subI, le2]
      walk_at "ev"
      exact ⟨n, r - far, c - far, hn.1, hn.2, by omega, by omega, rfl⟩
    · have z4 : (w == 4) = false := by simp [h4']
      simp only [z4]
      walk_at "ev"
      by_cases h5' : w = 5
      · subst h5'
        have := h5 rfl
        simp only [eqI, Res.bind_ok, thenR_ok, beq_self_eq_true]
        walk_at "ev"
        simp only [subI, le2]
        walk_at "ev"
        exact ⟨n, far - r, c - far, hn.1, hn.2, by omega, by omega, rfl⟩
      · have z5 : (w == 5) = false := by simp [h5']
        have := h6 h4' h5'
        simp only [eqI, Res.bind_ok, thenR_ok, z5]
        walk_at "ev"
        simp only [subI, le2]
        walk_at "ev"
        exact ⟨n, r - 1, c - 2, hn.1, hn.2, by omega, by omega, rfl⟩
  have cs : w = 0 ∨ w = 1 ∨ w = 2 ∨ w = 3 ∨ w = 4 ∨ w = 5 := by omega
  rcases cs with e | e | e | e | e | e
  · subst e; exact fin 4 (by omega) (by omega) rfl (by omega) (by omega) (by omega)
  · subst e; exact fin 4 (by omega) (by omega) rfl (by omega) (by omega) (by omega)
  · subst e; exact fin 6 (by omega) (by omega) rfl (by omega) (by omega) (by omega)
  · subst e; exact fin 3 (by omega) (by omega) rfl (by omega) (by omega) (by omega)
  · subst e; exact fin (2 * far + 1) (by omega) (by omega) rfl (by omega) (by omega) (by omega)
  · subst e; exact fin 3 (by omega) (by omega) rfl (by omega) (by omega) (by omega)
end E3

namespace E3
open PySem PySem.Spec PyProof.Rows L2
local macro_rules | `(tactic| walk_at "ev") => `(tactic| simp only [fnD, startF, endF, sSeq, sAsg, sSet, sSetV, sAsgV, sIf, sRet, sNew, sMut, sMutV, sFor, sForR, sFreeze, sNil, optK, thenR_ok, thenR_exc, thenR_stuck,
  view, mask, eVar, eC, e1, e2, eCall, eTup, eLst, eSl, oNone, oSome, eAnd, eOr, eIf, E3.tAnd, E3.tOr, E3.tNot, E3.tB, asB, notD, aNil, aCons, Res.bind_ok, Res.bind_exc, Res.bind_stuck,
  gT, gsCons, gsNil, gN, tupD, lstD, Slot.dat, Slot.shd, List.length_cons, List.length_nil, List.map_cons, List.map_nil, List.replicate, List.append_nil, List.cons_append, List.nil_append, Option.map_some, Option.map_none, Option.bind_some, Option.bind_none,
  List.getElem?_cons_zero, List.getElem?_cons_succ, List.set_cons_zero, List.set_cons_succ, Nat.reduceAdd, Nat.reduceSub, Nat.reduceEqDiff, if_true, if_false, ite_true, ite_false, reduceIte, decide_true, decide_false, reduceCtorEq])
theorem le0 : (0 : Nat) ≤ sizeLine := by decide
theorem le1 : (1 : Nat) ≤ sizeLine := by decide
theorem le2 : (2 : Nat) ≤ sizeLine := by decide
theorem le3 : (3 : Nat) ≤ sizeLine := by decide
theorem le4 : (4 : Nat) ≤ sizeLine := by decide
theorem le5 : (5 : Nat) ≤ sizeLine := by decide
theorem le6 : (6 : Nat) ≤ sizeLine := by decide
theorem le7 : (7 : Nat) ≤ sizeLine := by decide
theorem le8 : (8 : Nat) ≤ sizeLine := by decide
theorem eVar_zero {d : D} {σ : DS} : eVar 0 (some d :: σ) = .ok d := rfl
theorem eVar_succ {o : Option D} {σ : DS} {i : Nat} : eVar (i + 1) (o :: σ) = eVar i σ := rfl
theorem forS_inv {p : GF} {body : SF} {Inv : Nat → SS → Prop} : ∀ (ds : List D) (n : Nat) (σ : SS), Inv n σ →
    (∀ m d σ, d ∈ ds → m < n + ds.length → Inv m σ → ∃ σ1 σ2, p d σ = some σ1 ∧ (body σ1 = .ok .nx σ2 ∨ body σ1 = .ok .ct σ2) ∧ Inv (m + 1) σ2) → ∃ σ', forS p body ds σ = .ok .nx σ' ∧ Inv (n + ds.length) σ'
  | [], n, σ, h, _ => ⟨σ, rfl, h⟩
  | d :: ds, n, σ, h, k => by
    obtain ⟨σ1, σ2, e1, e2, h2⟩ := k n d σ List.mem_cons_self (by rw [List.length_cons]; omega) h
    obtain ⟨σ3, e3, h3⟩ := forS_inv ds (n + 1) σ2 h2 fun m d' σ' hd hm hi => k m d' σ' (List.mem_cons_of_mem _ hd) (by rw [List.length_cons]; omega) hi
    refine ⟨σ3, ?_, by rw [List.length_cons]; have : n + (ds.length + 1) = n + 1 + ds.length := by omega
                       rw [this]; exact h3⟩
    unfold forS
    rw [e1]
    rcases e2 with e2 | e2
    · simp only [e2]; exact e3
    · simp only [e2]; exact e3
abbrev cellD (p : Int × Int) : D := cell p.1 p.2
theorem keysOf_enc : ∀ ks : List (List Int), keysOf (ks.map encK) = some ks
  | [] => rfl
  | k :: ks => by
    have h : keyOf (encK k) = some k := intsOf_map k
    show (match keyOf (encK k), keysOf (ks.map encK) with
      | some k, some ks => some (k :: ks)
      | _, _ => none) = _
    rw [h, keysOf_enc ks]
abbrev ltP (a b : Int × Int) : Prop := a.1 < b.1 ∨ a.1 = b.1 ∧ a.2 < b.2
theorem lt_pair {a b c d : Int} (h : [a, b] ≤ [c, d]) (n : [a, b] ≠ [c, d]) : a < c ∨ a = c ∧ b < d := by
  rcases Int.lt_trichotomy a c with z | z | z
  · exact .inl z
  · subst z
    refine .inr ⟨rfl, ?_⟩
    rcases Int.lt_trichotomy b d with y | y | y
    · exact y
    · subst y; exact absurd rfl n
    · exact absurd (List.cons_lt_cons_iff.mpr (.inr ⟨rfl, List.cons_lt_cons_iff.mpr (.inl y)⟩)) h
  · exact absurd (List.cons_lt_cons_iff.mpr (.inl z)) h
theorem sortSet_pairs (ps : List (Int × Int)) (hl : ps.length ≤ 63) : ∃ qs : List (Int × Int), sortSetD (.list (ps.map cellD)) = .ok (.list (qs.map cellD)) ∧ (∀ q, q ∈ qs ↔ q ∈ ps) ∧ qs.length ≤ ps.length ∧ qs.Pairwise ltP := by
  let ks : List (List Int) := ps.map fun p => [p.1, p.2]
  have e1 : ps.map cellD = ks.map encK := by
    show _ = (ps.map _).map encK
    rw [List.map_map]; rfl
  have hm : ∀ k ∈ riseK (dd ks), ∃ p ∈ ps, k = [p.1, p.2] := fun k hk => by
    have := mem_dd.mp ((riseK_perm _).mem_iff.mp hk)
    obtain ⟨p, hp, rfl⟩ := List.mem_map.mp this
    exact ⟨p, hp, rfl⟩
  let qs : List (Int × Int) := (riseK (dd ks)).map fun k => (k.getD 0 0, k.getD 1 0)
  refine ⟨qs, ?_, fun q => ?_, ?_, ?_⟩
  · rw [e1]
    show (match keysOf (ks.map encK) with
      | some ks => if ks.length ≤ setMost ∧ (ks.all fun k => !k.isEmpty) = true then Res.ok (PyData.list ((riseK (dd ks)).map encK)) else .stuck
      | none => .stuck) = _
    rw [keysOf_enc]
    have c1 : ks.length ≤ setMost := by show (ps.map _).length ≤ _; rw [List.length_map]; exact hl
    have c2 : (ks.all fun k => !k.isEmpty) = true := List.all_eq_true.mpr fun k hk => by
      obtain ⟨p, hp, rfl⟩ := List.mem_map.mp hk; rfl
    simp only []
    rw [if_pos ⟨c1, c2⟩]
    have : (riseK (dd ks)).map encK = qs.map cellD := by
      show _ = (List.map _ _).map cellD
      rw [List.map_map]
      refine List.map_congr_left fun k hk => ?_
      obtain ⟨p, hp, rfl⟩ := hm k hk
      rfl
    rw [this]
  · constructor
    · intro hq
      obtain ⟨k, hk, rfl⟩ := List.mem_map.mp hq
      obtain ⟨p, hp, rfl⟩ := hm k hk
      exact hp
    · intro hq
      refine List.mem_map.mpr ⟨[q.1, q.2], (riseK_perm _).mem_iff.mpr (mem_dd.mpr (List.mem_map.mpr ⟨q, hq, rfl⟩)), rfl⟩
  · show (List.map _ _).length ≤ _
    rw [List.length_map, (riseK_perm _).length_eq]
    have : ∀ l : List (List Int), (dd l).length ≤ l.length := fun l => by
      induction l with
      | nil => exact Nat.le_refl _
      | cons a l ih =>
        unfold dd
        split
        · rw [List.length_cons]; omega
        · rw [List.length_cons, List.length_cons]; omega
    refine Nat.le_trans (this ks) ?_
    show (ps.map _).length ≤ _
    rw [List.length_map]; exact Nat.le_refl _
  · refine List.pairwise_map.mpr ?_
    have nd : (riseK (dd ks)).Nodup := (riseK_perm _).nodup_iff.mpr (nodup_dd _)
    have pw := (riseK_pair (dd ks)).and nd
    refine pw.imp_of_mem fun {a b} ha hb h => ?_
    obtain ⟨p, hp, rfl⟩ := hm a ha
    obtain ⟨q, hq, rfl⟩ := hm b hb
    exact lt_pair h.1 h.2
theorem lay_cells : ∀ ps : List (Int × Int), PyData.canLayAll0 (ps.map cellD) = true
  | [] => rfl
  | p :: ps => by
    show (PyData.canLay0 (cellD p) && PyData.canLayAll0 (ps.map cellD)) = true
    rw [lay_cells ps]; rfl
theorem deep_cells : ∀ ps : List (Int × Int), PyData.depthAll (ps.map cellD) ≤ 1
  | [] => by decide
  | p :: ps => by
    show max (PyData.depth (cellD p)) (PyData.depthAll (ps.map cellD)) ≤ 1
    have := deep_cells ps
    have h : PyData.depth (cellD p) = 1 := rfl
    omega
abbrev shp (ps : List (Int × Int)) (b : Bool) : D := .tuple [.tuple (ps.map cellD), .bool b]
theorem shaped_cells (ps : List (Int × Int)) : SeqAt.shaped (.tuple (ps.map cellD)) = true := by
  refine Bool.and_eq_true_iff.mpr ⟨lay_cells ps, decide_eq_true ?_⟩
  show PyData.depthAll (ps.map cellD) + 1 ≤ 64
  have := deep_cells ps
  omega
theorem shaped_shp (ps : List (Int × Int)) (b : Bool) : SeqAt.shaped (shp ps b) = true := by
  refine Bool.and_eq_true_iff.mpr ⟨?_, decide_eq_true ?_⟩
  · show (PyData.canLayAll0 (ps.map cellD) && (true && true)) = true
    rw [lay_cells]; rfl
  · show max (PyData.depthAll (ps.map cellD) + 1) (max 0 0) + 1 ≤ 64
    have := deep_cells ps
    omega
def shapeB : SF := (sSeq (sAsg (gT 2 (gsCons (gN 0) (gsCons (gN 7) gsNil))) (eCall lawSpot (aCons (eVar 0) (aCons (eVar 2) aNil))))
  (sMut 5 appendM (aCons (eVar 7) aNil)))
def lawShape : List D → Res D := fnD 8 3 (sSeq (sAsg (gT 2 (gsCons (gN 0) (gsCons (gN 3) gsNil))) (eCall divmodD (aCons (eVar 0) (aCons (e2 addD (eVar 1) (eC (.int 1))) aNil))))
  (sSeq (sAsg (gT 2 (gsCons (gN 0) (gsCons (gN 4) gsNil))) (eCall divmodD (aCons (eVar 0) (aCons (eC (.int 2)) aNil))))
  (sSeq (sNew 5 (eLst aNil))
  (sSeq (sFor (fun σ => ((aCons (eVar 3) aNil) σ).bind rng1) (gN 6) shapeB)
  (sFreeze 5 (sRet (eTup (aCons (eVar 0) (aCons (eTup (aCons (eCall tupleD (aCons (e1 sortSetD (eVar 5)) aNil)) (aCons (e2 eqD (eVar 4) (eC (.int 1))) aNil))) aNil)))))))))
abbrev inB (far : Int) (p : Int × Int) : Prop := (-far ≤ p.1 ∧ p.1 ≤ far) ∧ (-far ≤ p.2 ∧ p.2 ≤ far)
def shInv (most far cnt rst : Int) (n : Nat) (σ : SS) : Prop := ∃ (number : Int) (ps : List (Int × Int)) (x6 x7 : Option Slot), 0 ≤ number ∧ ps.length = n ∧ (∀ p ∈ ps, inB far p) ∧
  σ = [some (.sh (.int number)), some (.sh (.int most)), some (.sh (.int far)), some (.sh (.int cnt)), some (.sh (.int rst)), some (.ow (.list (ps.map cellD))), x6, x7]
theorem shape_ok (number most far : Int) (h0 : 0 ≤ number) (hm : 0 ≤ most) (hm2 : most ≤ 63) (hf : 4 ≤ far) (hF : far < 2 ^ 100) :
    ∃ (n : Int) (ps : List (Int × Int)) (b : Bool), 0 ≤ n ∧ (ps.length : Int) ≤ most ∧ (∀ p ∈ ps, inB far p) ∧ ps.Pairwise ltP ∧ lawShape [.int number, .int most, .int far] = .ok (.tuple [.int n, shp ps b]) := by
  unfold lawShape
  walk_at "ev"
  simp only [addI, Res.bind_ok]
  have hl : (most + 1).natAbs.log2 < 9000 := log2_lt 7 (by omega) (by decide) (by omega)
  rw [divmodI (by omega) hl]
  walk_at "ev"
  rw [divmodI (by decide) (by decide +kernel)]
  walk_at "ev"
  have c0 : 0 ≤ number % (most + 1) ∧ number % (most + 1) < most + 1 := ⟨Int.emod_nonneg _ (by omega), Int.emod_lt_of_pos _ (by omega)⟩
  have n0 : 0 ≤ number / (most + 1) / 2 := Int.ediv_nonneg (Int.ediv_nonneg h0 (by omega)) (by decide)
  generalize number % (most + 1) = cnt at c0 ⊢
  generalize number / (most + 1) % 2 = rst
  generalize number / (most + 1) / 2 = nn at n0 ⊢
  have le0 : (0 : Nat) ≤ sizeLine := by decide
  have le2 : (2 : Nat) ≤ sizeLine := by decide
  simp only [le0, if_true, thenR_ok]
  walk_at "ev"
  have hr : rng1 [.int cnt] = .ok (rangeD 0 cnt) := by
    show (if _ then _ else _) = _
    rw [if_pos ⟨by omega, by omega⟩]
  simp only [hr, Res.bind_ok, thenR_ok]
  obtain ⟨σ', e, number', ps, x6, x7, k0, kl, kb, rfl⟩ := forS_inv (p := gN 6) (body := shapeB) (Inv := shInv most far cnt rst) (rangeD 0 cnt) 0
    [some (.sh (.int nn)), some (.sh (.int most)), some (.sh (.int far)), some (.sh (.int cnt)), some (.sh (.int rst)), some (.ow (.list [])), none, none] ⟨nn, [], none, none, n0, rfl, (fun p hp => nomatch hp), rfl⟩ (by
      rintro m d σ hd hlt ⟨nu, ps, x6, x7, k0, kl, kb, rfl⟩
      obtain ⟨n1, r, c, b0, _, br, bc, e⟩ := spot_ok nu far k0 hf hF
      refine ⟨_, _, rfl, .inl ?_, n1, ps ++ [(r, c)], some (.sh d), some (.sh (cell r c)), b0, by simp [kl], ?_, rfl⟩
      · unfold shapeB
        walk_at "ev"
        rw [e]
        walk_at "ev"
        have hlen : (ps.map cellD).length < sizeLine := by
          rw [List.length_map, kl]
          have : (rangeD 0 cnt).length = cnt.toNat := by simp [rangeD]
          have := sizeLine_eq
          omega
        simp only [ownL, List.getElem?_cons_succ, List.getElem?_cons_zero, thenR_ok, appendM, hlen, if_true, mutK, List.set_cons_succ, List.set_cons_zero, List.map_append, List.map_cons, List.map_nil]
      · intro p hp
        rcases List.mem_append.mp hp with hp | hp
        · exact kb p hp
        · cases List.mem_singleton.mp hp
          exact ⟨br, bc⟩)
  simp only [e]
  walk_at "ev"
  have kl' : ps.length = cnt.toNat := by rw [kl]; simp [rangeD]
  obtain ⟨qs, e1, e2, e3, e4⟩ := sortSet_pairs ps (by omega)
  simp only [e1, Res.bind_ok, tupleD, eqI, le2, if_true]
  refine ⟨_, qs, _, k0, by omega, fun p hp => kb p ((e2 p).mp hp), e4, rfl⟩
theorem cut_ints (ns : List Int) (lo hi : Option Int) : ∃ ms : List Int, cutD (ns.map PyData.int) lo hi = ms.map PyData.int ∧ ms.length ≤ ns.length :=
  ⟨(ns.drop (HT.sIx (ns.map PyData.int).length 0 lo)).take (HT.sIx (ns.map PyData.int).length (ns.map PyData.int).length hi - HT.sIx (ns.map PyData.int).length 0 lo), by
    unfold cutD
    rw [List.map_take, List.map_drop], by
    rw [List.length_take, List.length_drop]; omega⟩
theorem cut_cat (ns ks : List Int) (lo hi : Option Int) (h : ns.length + ks.length ≤ sizeLine) : ∃ ms : List Int, addD (.list (cutD (ns.map PyData.int) lo hi)) (.list (ks.map PyData.int)) = .ok (.list (ms.map PyData.int)) ∧ ms.length ≤ ns.length + ks.length := by
  obtain ⟨ms, e, hl⟩ := cut_ints ns lo hi
  refine ⟨ms ++ ks, ?_, by rw [List.length_append]; omega⟩
  rw [e]
  show (if _ then _ else _) = _
  rw [if_pos (by rw [List.length_map, List.length_map]; omega), List.map_append]
end E3

namespace E3
open PySem PySem.Spec PyProof.Rows L2
theorem ltP_irr (a : Int × Int) : ¬ ltP a a := by
  rintro (h | ⟨_, h⟩) <;> omega
theorem ltP_asym {a b : Int × Int} (h : ltP a b) : ¬ ltP b a := by
  rcases h with h | ⟨h1, h2⟩ <;> rintro (k | ⟨k1, k2⟩) <;> omega
theorem pw_nodup {xs : List (Int × Int)} (h : xs.Pairwise ltP) : xs.Nodup := h.imp fun {a b} z e => by
  subst e; exact ltP_irr _ z
theorem rise_uniq {xs ys : List (Int × Int)} (hx : xs.Pairwise ltP) (hy : ys.Pairwise ltP) (h : ∀ p, p ∈ xs ↔ p ∈ ys) : xs = ys := by
  have pm : xs.Perm ys := (List.perm_ext_iff_of_nodup (pw_nodup hx) (pw_nodup hy)).mpr h
  exact List.Perm.eq_of_pairwise (le := ltP) (fun a b _ _ h1 h2 => absurd h2 (ltP_asym h1)) hx hy pm
abbrev kOf (p : Int × Int) : List Int := [p.1, p.2]
abbrev pOf (k : List Int) : Int × Int := (k.getD 0 0, k.getD 1 0)
def srt (ps : List (Int × Int)) : List (Int × Int) := (riseK (dd (ps.map kOf))).map pOf
theorem srt_from {ps : List (Int × Int)} : ∀ k ∈ riseK (dd (ps.map kOf)), ∃ p ∈ ps, k = kOf p := fun k hk => by
  obtain ⟨p, hp, rfl⟩ := List.mem_map.mp (mem_dd.mp ((riseK_perm _).mem_iff.mp hk))
  exact ⟨p, hp, rfl⟩
theorem mem_srt {ps : List (Int × Int)} {q : Int × Int} : q ∈ srt ps ↔ q ∈ ps := by
  constructor
  · intro hq
    obtain ⟨k, hk, rfl⟩ := List.mem_map.mp hq
    obtain ⟨p, hp, rfl⟩ := srt_from k hk
    exact hp
  · exact fun hq => List.mem_map.mpr ⟨kOf q, (riseK_perm _).mem_iff.mpr (mem_dd.mpr (List.mem_map.mpr ⟨q, hq, rfl⟩)), rfl⟩
theorem pw_srt (ps : List (Int × Int)) : (srt ps).Pairwise ltP := by
  refine List.pairwise_map.mpr ?_
  have nd : (riseK (dd (ps.map kOf))).Nodup := (riseK_perm _).nodup_iff.mpr (nodup_dd _)
  refine ((riseK_pair _).and nd).imp_of_mem fun {a b} ha hb h => ?_
  obtain ⟨p, hp, rfl⟩ := srt_from a ha
  obtain ⟨q, hq, rfl⟩ := srt_from b hb
  exact lt_pair h.1 h.2
theorem dd_len : ∀ l : List (List Int), (dd l).length ≤ l.length
  | [] => Nat.le_refl _
  | a :: l => by
    have := dd_len l
    unfold dd
    split
    · rw [List.length_cons]; omega
    · rw [List.length_cons, List.length_cons]; omega
theorem srt_len (ps : List (Int × Int)) : (srt ps).length ≤ ps.length := by
  unfold srt
  rw [List.length_map, (riseK_perm _).length_eq]
  exact Nat.le_trans (dd_len _) (by rw [List.length_map]; exact Nat.le_refl _)
theorem srt_id {ps : List (Int × Int)} (h : ps.Pairwise ltP) : srt ps = ps := rise_uniq (pw_srt _) h fun _ => mem_srt
theorem srt_cells (ps : List (Int × Int)) : (riseK (dd (ps.map kOf))).map encK = (srt ps).map cellD := by
  unfold srt
  rw [List.map_map]
  refine List.map_congr_left fun k hk => ?_
  obtain ⟨p, hp, rfl⟩ := srt_from k hk
  rfl
theorem cells_enc (ps : List (Int × Int)) : ps.map cellD = (ps.map kOf).map encK := by rw [List.map_map]; rfl
theorem sortSet_srt (ps : List (Int × Int)) (hl : ps.length ≤ 63) : sortSetD (.list (ps.map cellD)) = .ok (.list ((srt ps).map cellD)) := by
  rw [← srt_cells, cells_enc]
  show (match keysOf ((ps.map kOf).map encK) with
    | some ks => if ks.length ≤ setMost ∧ (ks.all fun k => !k.isEmpty) = true then Res.ok (PyData.list ((riseK (dd ks)).map encK)) else .stuck
    | none => .stuck) = _
  rw [keysOf_enc]
  have c2 : ((ps.map kOf).all fun k => !k.isEmpty) = true := List.all_eq_true.mpr fun k hk => by
    obtain ⟨p, hp, rfl⟩ := List.mem_map.mp hk; rfl
  simp only []
  rw [if_pos ⟨by rw [List.length_map]; exact hl, c2⟩]
theorem dd_nodup : ∀ {l : List (List Int)}, l.Nodup → dd l = l
  | [], _ => rfl
  | a :: l, h => by
    obtain ⟨h1, h2⟩ := List.nodup_cons.mp h
    unfold dd
    rw [dd_nodup h2, if_neg h1]
theorem kOf_nodup {ps : List (Int × Int)} (h : ps.Nodup) : (ps.map kOf).Nodup := List.pairwise_map.mpr (h.imp fun {a b} ne e => ne (by
  have e1 : a.1 = b.1 := (List.cons.inj e).1
  have e2 : a.2 = b.2 := (List.cons.inj (List.cons.inj e).2).1
  exact Prod.ext e1 e2))
theorem sort_srt (ps : List (Int × Int)) (hl : ps.length ≤ sizeLine) (hn : ps.Nodup) : sortedD [.list (ps.map cellD)] = .ok (.list ((srt ps).map cellD)) := by
  have ok : sortOk (ps.map cellD) = true := by
    unfold sortOk
    have a1 : ((ps.map cellD).all fun d => (ps.map cellD).all fun e => PySem.W.alike d e) = true := List.all_eq_true.mpr fun d hd => List.all_eq_true.mpr fun e he => by
      obtain ⟨p, _, rfl⟩ := List.mem_map.mp hd
      obtain ⟨q, _, rfl⟩ := List.mem_map.mp he
      exact alike_encK (kOf p) (kOf q)
    have a2 : (ps.map cellD).all isTupNE = true := List.all_eq_true.mpr fun d hd => by
      obtain ⟨p, _, rfl⟩ := List.mem_map.mp hd; rfl
    have a3 := lay_cells ps
    have a4 : PyData.depthAll (ps.map cellD) ≤ 64 := Nat.le_trans (deep_cells ps) (by decide)
    rw [a1, a2, a3, decide_eq_true a4, decide_eq_true (by rw [List.length_map]; exact hl)]; rfl
  show (if sortOk (ps.map cellD) = true then Res.ok (PyData.list (sortL (ps.map cellD))) else .stuck) = _
  rw [if_pos ok, ← srt_cells, dd_nodup (kOf_nodup hn), cells_enc, sortL_enc]
theorem forS_go {α : Type} {p : GF} {body : SF} {g : α → D} {Inv : List α → SS → Prop} (all : List α) : ∀ (xs done : List α) (σ : SS), all = done ++ xs → Inv done σ →
    (∀ pre x post σ, all = pre ++ x :: post → Inv pre σ → ∃ σ1 σ2, p (g x) σ = some σ1 ∧ (body σ1 = .ok .nx σ2 ∨ body σ1 = .ok .ct σ2) ∧ Inv (pre ++ [x]) σ2) → ∃ σ', forS p body (xs.map g) σ = .ok .nx σ' ∧ Inv all σ'
  | [], done, σ, e, h, _ => ⟨σ, rfl, by rw [e, List.append_nil]; exact h⟩
  | x :: xs, done, σ, e, h, k => by
    obtain ⟨σ1, σ2, e1, e2, h2⟩ := k done x xs σ e h
    obtain ⟨σ3, e3, h3⟩ := forS_go all xs (done ++ [x]) σ2 (by rw [e, List.append_assoc]; rfl) h2 k
    refine ⟨σ3, ?_, h3⟩
    rw [List.map_cons]
    unfold forS
    rw [e1]
    rcases e2 with e2 | e2
    · simp only [e2]; exact e3
    · simp only [e2]; exact e3
theorem forS_pre {α : Type} {p : GF} {body : SF} {g : α → D} {Inv : List α → SS → Prop} (xs : List α) (σ : SS) (h : Inv [] σ)
    (k : ∀ pre x post σ, xs = pre ++ x :: post → Inv pre σ → ∃ σ1 σ2, p (g x) σ = some σ1 ∧ (body σ1 = .ok .nx σ2 ∨ body σ1 = .ok .ct σ2) ∧ Inv (pre ++ [x]) σ2) : ∃ σ', forS p body (xs.map g) σ = .ok .nx σ' ∧ Inv xs σ' :=
  forS_go xs xs [] σ rfl h k
theorem lc_map {p : GF} {c : DS → Res Bool} {f : DS → Res D} {σ : DS} {g : D → D} : ∀ (ds : List D), (∀ d ∈ ds, ∃ σ2, patD p d σ = some σ2 ∧ c σ2 = .ok true ∧ f σ2 = .ok (g d)) → lcD p c f σ ds = .ok (ds.map g)
  | [], _ => rfl
  | d :: ds, h => by
    obtain ⟨σ2, a, b, e⟩ := h d List.mem_cons_self
    unfold lcD
    rw [a]
    simp only [b, e, Res.ne, Res.bind_ok, if_true, lc_map ds fun d' hd => h d' (List.mem_cons_of_mem _ hd)]
    rfl
theorem lc_of {α : Type} {p : GF} {c : DS → Res Bool} {f : DS → Res D} {σ : DS} {g : α → D} {q : α → D} : ∀ (xs : List α), (∀ x ∈ xs, ∃ σ2, patD p (g x) σ = some σ2 ∧ c σ2 = .ok true ∧ f σ2 = .ok (q x)) → lcD p c f σ (xs.map g) = .ok (xs.map q)
  | [], _ => rfl
  | x :: xs, h => by
    obtain ⟨σ2, a, b, e⟩ := h x List.mem_cons_self
    rw [List.map_cons]
    unfold lcD
    rw [a]
    simp only [b, e, Res.ne, Res.bind_ok, if_true, lc_of xs fun d' hd => h d' (List.mem_cons_of_mem _ hd)]
    rfl
theorem lc_if {α : Type} {p : GF} {c : DS → Res Bool} {f : DS → Res D} {σ : DS} {g : α → D} {q : α → D} {t : α → Bool} : ∀ (xs : List α), (∀ x ∈ xs, ∃ σ2, patD p (g x) σ = some σ2 ∧ c σ2 = .ok (t x) ∧ (t x = true → f σ2 = .ok (q x))) → lcD p c f σ (xs.map g) = .ok ((xs.filter t).map q)
  | [], _ => rfl
  | x :: xs, h => by
    obtain ⟨σ2, a, b, e⟩ := h x List.mem_cons_self
    have ih := lc_if (q := q) (t := t) xs fun d' hd => h d' (List.mem_cons_of_mem _ hd)
    rw [List.map_cons]
    unfold lcD
    rw [a]
    cases ht : t x with
    | true =>
      rw [ht] at b
      simp only [b, e ht, Res.ne, Res.bind_ok, if_true, ih, List.filter_cons, ht, List.map_cons]
    | false =>
      rw [ht] at b
      simp only [b, Res.ne, Res.bind_ok, if_false, ih, List.filter_cons, ht, Bool.false_eq_true]
end E3

namespace E3
open PySem PySem.Spec PyProof.Rows L2
local macro_rules | `(tactic| walk_at "ev") => `(tactic| simp only [fnD, startF, endF, sSeq, sAsg, sSet, sSetV, sAsgV, sIf, sRet, sNew, sMut, sMutV, sFor, sForR, sFreeze, sNil, sExpr, optK, thenR_ok, thenR_exc, thenR_stuck,
  view, mask, E3.eVar_zero, E3.eVar_succ, eC, e1, e2, eCall, eTup, eLst, eSl, oNone, oSome, eAnd, eOr, eIf, E3.tAnd, E3.tOr, E3.tNot, E3.tB, asB, notD, aNil, aCons, Res.bind_ok, Res.bind_exc, Res.bind_stuck,
  gT, gsCons, gsNil, gN, tupD, lstD, Slot.dat, Slot.shd, List.length_cons, List.length_nil, List.map_cons, List.map_nil, List.replicate, List.append_nil, List.cons_append, List.nil_append, Option.map_some, Option.map_none, Option.bind_some, Option.bind_none,
  List.getElem?_cons_zero, List.getElem?_cons_succ, List.set_cons_zero, List.set_cons_succ, Nat.reduceAdd, Nat.reduceSub, Nat.reduceEqDiff, if_true, if_false, ite_true, ite_false, reduceIte, decide_true, decide_false, reduceCtorEq, Bool.not_true, Bool.not_false, Bool.false_eq_true, Bool.true_eq_false, Bool.or_true, Bool.true_or, Bool.false_or, Bool.or_false, addI, subI, ltI, leI, gtI, geI, eqI, neI, ix_cell0, ix_cell1, E3.le1, E3.le2, E3.le3, E3.le4, E3.le5, E3.le6, beq_self_eq_true])
abbrev mv (a b : Int) (p : Int × Int) : Int × Int := (p.1 + a, p.2 + b)
def lawWhole : List D → Res D := fnD 1 1 (sRet (eAnd (e1 (isiD "int") (eVar 0)) (e1 notD (e1 (isiD "bool") (eVar 0)))))
theorem whole_ok (i : Int) : lawWhole [.int i] = .ok (.bool true) := rfl
def lawIsShape : List D → Res D := fnD 3 2 (sSeq (sIf (E3.tOr (E3.tNot (E3.tB (e1 (isiD "tuple") (eVar 0)))) (E3.tOr (tB (e2 neD (eCall lenD (aCons (eVar 0) aNil)) (eC (.int 2)))) (E3.tNot (E3.tB (e1 (isiD "tuple") (e2 ixD (eVar 0) (eC (.int 0)))))))) (sRet (eC (.bool false))) sNil)
  (sSeq (sIf (E3.tOr (E3.tNot (E3.tB (e1 (isiD "bool") (e2 ixD (eVar 0) (eC (.int 1)))))) (tB (e2 neD (eVar 0) (eVar 1)))) (sRet (eC (.bool false))) sNil)
  (sRet (eCall allD (aCons (eLc (fun σ => ((e2 ixD (eVar 0) (eC (.int 0))) σ).bind seqOf) (gN 2) [2] tYesD (eAnd (e1 (isiD "tuple") (eVar 2)) (eAnd (eCall lawWhole (aCons (e2 ixD (eVar 2) (eC (.int 0))) aNil)) (eCall lawWhole (aCons (e2 ixD (eVar 2) (eC (.int 1))) aNil))))) aNil)))))
theorem all_true {α : Type} : ∀ ps : List α, boolsOf (ps.map fun _ => PyData.bool true) = some (ps.map fun _ => true)
  | [] => rfl
  | p :: ps => by
    show (boolsOf (ps.map fun _ => PyData.bool true)).map (true :: ·) = _
    rw [all_true ps]; rfl
theorem is_shape_ok (ps : List (Int × Int)) (b : Bool) (hl : ps.length ≤ sizeLine) : lawIsShape [shp ps b, shp ps b] = .ok (.bool true) := by
  unfold lawIsShape
  have i0 : ixD (shp ps b) (.int 0) = .ok (.tuple (ps.map cellD)) := rfl
  have i1 : ixD (shp ps b) (.int 1) = .ok (.bool b) := rfl
  have ln : lenD [shp ps b] = .ok (.int 2) := rfl
  walk_at "ev"
  simp only [i0, i1, ln, isiD, isiT, Res.bind_ok, neI, neD_refl (shaped_shp ps b), thenR_ok, beq_self_eq_true, Bool.or_true, Bool.true_or, Bool.not_true, Bool.not_false]
  walk_at "ev"
  simp only [i0, i1, ln, isiD, isiT, Res.bind_ok, neI, neD_refl (shaped_shp ps b), beq_self_eq_true, Bool.or_true]
  walk_at "ev"
  simp only [thenR_ok, eLc, Res.bind_ok, seqOf, List.length_map, hl, if_true, e2, eVar, eC, List.getElem?_cons_zero, i0]
  rw [lc_of (q := fun _ => .bool true) ps (fun p hp => by
      refine ⟨_, rfl, rfl, ?_⟩
      have e : (view ((upS (wipeD [some (shp ps b), some (shp ps b), none] [2])).set 2 (some (Slot.sh (cellD p)))))[2]? = some (some (cellD p)) := rfl
      simp only [eAnd, e1, E3.tB, eVar, e, isiD, isiT, Res.bind_ok, asB, eCall, aCons, aNil, e2, eC, ix_cell0, ix_cell1, whole_ok, beq_self_eq_true, if_true])]
  simp only [Res.bind_ok, allD, overB]
  rw [all_true ps]
  simp
def dMovedCell : List D → Res D := fnD 2 2 (sRet (eTup (aCons (e2 addD (e2 ixD (eVar 0) (eC (.int 0))) (e2 ixD (eVar 1) (eC (.int 0)))) (aCons (e2 addD (e2 ixD (eVar 0) (eC (.int 1))) (e2 ixD (eVar 1) (eC (.int 1)))) aNil))))
theorem moved_cell_ok (r c a b : Int) : dMovedCell [cell r c, cell a b] = .ok (cell (r + a) (c + b)) := rfl
def dMoved : List D → Res D := fnD 5 2 (sSeq (sAsg (gT 2 (gsCons (gN 2) (gsCons (gN 3) gsNil))) (eVar 0))
  (sRet (eTup (aCons (eCall tupleD (aCons (eLc (fun σ => ((eVar 2) σ).bind seqOf) (gN 4) [4] tYesD (eCall dMovedCell (aCons (eVar 4) (aCons (eVar 1) aNil)))) aNil)) (aCons (eVar 3) aNil)))))
theorem moved_ok (ps : List (Int × Int)) (b : Bool) (r c : Int) (hl : ps.length ≤ sizeLine) : dMoved [shp ps b, cell r c] = .ok (shp (ps.map (mv r c)) b) := by
  unfold dMoved
  walk_at "ev"
  simp only [seqOf, Res.bind_ok, eLc, List.getElem?_cons_zero, List.getElem?_cons_succ, eVar, wipeD, List.set_cons_succ, List.set_cons_zero, List.length_map, hl, if_true]
  rw [lc_of (q := fun p => cellD (mv r c p)) ps (fun p hp => ⟨_, rfl, rfl, rfl⟩)]
  simp only [Res.bind_ok, tupleD, le2, if_true, thenR_ok, shp, List.map_map]
  rfl
def dRising : List D → Res D := fnD 1 1 (sRet (eCall tupleD (aCons (e1 sortSetD (eVar 0)) aNil)))
theorem rising_ok (ps : List (Int × Int)) (hl : ps.length ≤ 63) : dRising [.list (ps.map cellD)] = .ok (.tuple ((srt ps).map cellD)) := by
  unfold dRising
  walk_at "ev"
  rw [sortSet_srt ps hl]
  walk_at "ev"
  simp only [tupleD, Res.bind_ok, thenR_ok]
end E3

namespace E3
open PySem PySem.Spec PyProof.Rows L2
local macro_rules | `(tactic| walk_at "ev") => `(tactic| try simp only [fnD, startF, endF, sSeq, sAsg, sSet, sSetV, sAsgV, sIf, sRet, sNew, sMut, sMutV, sFor, sForR, sFreeze, sNil, sExpr, optK, thenR_ok, thenR_exc, thenR_stuck,
  view, mask, E3.eVar_zero, E3.eVar_succ, eC, e1, e2, eCall, eTup, eLst, eSl, oNone, oSome, eAnd, eOr, eIf, E3.tAnd, E3.tOr, E3.tNot, E3.tB, asB, notD, aNil, aCons, Res.bind_ok, Res.bind_exc, Res.bind_stuck,
  gT, gsCons, gsNil, gN, tupD, lstD, Slot.dat, Slot.shd, List.length_cons, List.length_nil, List.map_cons, List.map_nil, List.replicate, List.append_nil, List.cons_append, List.nil_append, Option.map_some, Option.map_none, Option.bind_some, Option.bind_none,
  List.getElem?_cons_zero, List.getElem?_cons_succ, List.set_cons_zero, List.set_cons_succ, Nat.reduceAdd, Nat.reduceSub, Nat.reduceEqDiff, if_true, if_false, ite_true, ite_false, reduceIte, decide_true, decide_false, reduceCtorEq, Bool.not_true, Bool.not_false, Bool.false_eq_true, Bool.true_eq_false, Bool.or_true, Bool.true_or, Bool.false_or, Bool.or_false, addI, subI, ltI, leI, gtI, geI, eqI, neI, ix_cell0, ix_cell1, E3.le1, E3.le2, E3.le3, E3.le4, E3.le5, E3.le6, beq_self_eq_true])
theorem eqv_cell (p q : Int × Int) : PyData.eqv (cellD p) (cellD q) = decide (p = q) := by
  have h : PyData.eqv (cellD p) (cellD q) = (p.1 == q.1 && (p.2 == q.2 && true)) := by simp [PyData.eqv, PyData.eqvAll]
  rw [h]
  by_cases e : p = q
  · subst e; simp
  · rw [decide_eq_false e]
    by_cases e1 : p.1 = q.1
    · have e2 : p.2 ≠ q.2 := fun z => e (Prod.ext e1 z)
      simp [e1, e2]
    · simp [e1]
theorem mem_cells (p : Int × Int) (ps : List (Int × Int)) : memD (cellD p) (ps.map cellD) = decide (p ∈ ps) := by
  unfold memD
  induction ps with
  | nil => simp
  | cons q ps ih =>
    rw [List.map_cons, List.any_cons, ih, eqv_cell]
    by_cases e : q = p
    · subst e; simp
    · have e' : p ≠ q := fun z => e z.symm
      simp [e, e']
theorem shaped_cell (p : Int × Int) : SeqAt.shaped (cellD p) = true := by
  refine Bool.and_eq_true_iff.mpr ⟨rfl, decide_eq_true ?_⟩
  show PyData.depth (cellD p) ≤ 64
  have h : PyData.depth (cellD p) = 1 := rfl
  omega
theorem in_cells (p : Int × Int) (ps : List (Int × Int)) : inG (cellD p) (.tuple (ps.map cellD)) = .ok (.bool (decide (p ∈ ps))) := by
  show (if SeqAt.shaped (cellD p) && SeqAt.shaped (.tuple (ps.map cellD)) then Res.ok (PyData.bool (memD (cellD p) (ps.map cellD))) else .stuck) = _
  rw [shaped_cell, shaped_cells, mem_cells]; rfl
def hasK (kvs : List (D × D)) (k : List Int) : Bool := kvs.any fun p => decide (keyOf p.1 = some k)
theorem val_has (kvs : List (D × D)) (k : List Int) : (valK kvs k).isSome = hasK kvs k := by
  unfold valK hasK
  rw [Option.isSome_map]
  induction kvs with
  | nil => rfl
  | cons a l ih =>
    rw [List.find?_cons, List.any_cons]
    cases h : decide (keyOf a.1 = some k)
    · simp only [Bool.false_or]; exact ih
    · rfl
theorem has_put (kvs : List (D × D)) (k : List Int) (v : D) (j : List Int) : hasK (putKD kvs k v) j = (decide (k = j) || hasK kvs j) := by
  unfold putKD
  by_cases h : (kvs.any fun p => decide (keyOf p.1 = some k)) = true
  · rw [if_pos h]
    have e : hasK (kvs.map fun p => if keyOf p.1 = some k then (p.1, v) else p) j = hasK kvs j := by
      unfold hasK
      rw [List.any_map]
      congr 1
      funext p
      show decide (keyOf (if keyOf p.1 = some k then (p.1, v) else p).1 = some j) = _
      by_cases z : keyOf p.1 = some k
      · rw [if_pos z]
      · rw [if_neg z]
    rw [e]
    by_cases z : k = j
    · subst z
      have : hasK kvs k = true := h
      rw [this]; simp
    · rw [decide_eq_false z]; rfl
  · rw [if_neg h]
    unfold hasK
    rw [List.any_append, List.any_cons, List.any_nil, Bool.or_false]
    have : keyOf (.tuple (k.map .int)) = some k := intsOf_map k
    rw [this, Bool.or_comm]
    congr 1
    by_cases z : k = j
    · subst z; simp
    · rw [decide_eq_false z, decide_eq_false (fun y => z (Option.some.inj y))]
theorem len_put (kvs : List (D × D)) (k : List Int) (v : D) : (putKD kvs k v).length ≤ kvs.length + 1 := by
  unfold putKD
  split
  · rw [List.length_map]; omega
  · rw [List.length_append]; simp
theorem kOf_eq {p q : Int × Int} : (kOf p = kOf q) ↔ p = q := ⟨fun e => Prod.ext (List.cons.inj e).1 (List.cons.inj (List.cons.inj e).2).1, fun e => by rw [e]⟩
def minus (ps qs : List (Int × Int)) : List (Int × Int) := ps.filter fun p => !decide (p ∈ qs)
theorem mem_minus {p : Int × Int} {ps qs : List (Int × Int)} : p ∈ minus ps qs ↔ p ∈ ps ∧ p ∉ qs := by
  unfold minus
  rw [List.mem_filter]
  simp
theorem pw_minus {ps qs : List (Int × Int)} (h : ps.Pairwise ltP) : (minus ps qs).Pairwise ltP := h.filter _
theorem len_minus (ps qs : List (Int × Int)) : (minus ps qs).length ≤ ps.length := List.length_filter_le _ _
theorem eqv_cells : ∀ ps qs : List (Int × Int), PyData.eqvAll (ps.map cellD) (qs.map cellD) = decide (ps = qs)
  | [], [] => rfl
  | [], _ :: _ => rfl
  | _ :: _, [] => rfl
  | p :: ps, q :: qs => by
    show (PyData.eqv (cellD p) (cellD q) && PyData.eqvAll (ps.map cellD) (qs.map cellD)) = _
    rw [eqv_cell, eqv_cells ps qs]
    by_cases h1 : p = q <;> by_cases h2 : ps = qs <;> simp [h1, h2]
theorem eqv_shp (ps qs : List (Int × Int)) (b c : Bool) : PyData.eqv (shp ps b) (shp qs c) = (decide (ps = qs) && (b == c)) := by
  show (PyData.eqvAll (ps.map cellD) (qs.map cellD) && ((b == c) && true)) = _
  rw [eqv_cells, Bool.and_true]
theorem eq_shp (ps qs : List (Int × Int)) (b c : Bool) : eqD (shp ps b) (shp qs c) = .ok (.bool (decide (ps = qs) && (b == c))) := by
  unfold eqD
  rw [shaped_shp, shaped_shp, eqv_shp]; rfl
theorem forS_any {α : Type} {p : GF} {body : SF} {g : α → D} {Inv : SS → Prop} {t : α → Bool} {v : D} : ∀ (xs : List α) (σ : SS), Inv σ →
    (∀ x σ, x ∈ xs → Inv σ → ∃ σ1 σ2, p (g x) σ = some σ1 ∧ (if t x then body σ1 = .ok (.rt v) σ2 else body σ1 = .ok .nx σ2 ∧ Inv σ2)) →
    ∃ σ', if xs.any t then forS p body (xs.map g) σ = .ok (.rt v) σ' else forS p body (xs.map g) σ = .ok .nx σ' ∧ Inv σ'
  | [], σ, h, _ => ⟨σ, rfl, h⟩
  | x :: xs, σ, h, k => by
    obtain ⟨σ1, σ2, e1, e2⟩ := k x σ List.mem_cons_self h
    rw [List.any_cons]
    cases ht : t x with
    | true =>
      rw [ht] at e2
      simp only [if_true] at e2
      refine ⟨σ2, ?_⟩
      rw [Bool.true_or, if_pos rfl, List.map_cons]
      unfold forS
      rw [e1]
      simp only [e2]
    | false =>
      rw [ht] at e2
      simp only [Bool.false_eq_true, if_false] at e2
      obtain ⟨σ3, h3⟩ := forS_any xs σ2 e2.2 fun y σ' hy hi => k y σ' (List.mem_cons_of_mem _ hy) hi
      refine ⟨σ3, ?_⟩
      rw [Bool.false_or, List.map_cons]
      have e : forS p body (g x :: xs.map g) σ = forS p body (xs.map g) σ2 := by
        show (match p (g x) σ with
          | none => SR.stuck
          | some σ1 => match body σ1 with
            | .ok .nx σ2 => forS p body (xs.map g) σ2
            | .ok .ct σ2 => forS p body (xs.map g) σ2
            | .ok .bk σ2 => .ok .nx σ2
            | .ok (.rt v) σ2 => .ok (.rt v) σ2
            | .exc x σ2 => .exc x σ2
            | .stuck => .stuck) = _
        rw [e1]
        simp only [e2.1]
      rw [e]
      exact h3
end E3

namespace E3
open PySem PySem.Spec PyProof.Rows L2
local macro_rules | `(tactic| walk_at "ev") => `(tactic| try simp only [fnD, startF, endF, sSeq, sAsg, sSet, sSetV, sAsgV, sIf, sRet, sNew, sMut, sMutV, sFor, sForR, sFreeze, sNil, sExpr, optK, thenR_ok, thenR_exc, thenR_stuck,
  view, mask, E3.eVar_zero, E3.eVar_succ, eC, e1, e2, eCall, eTup, eLst, eSl, oNone, oSome, eAnd, eOr, eIf, E3.tAnd, E3.tOr, E3.tNot, E3.tB, asB, notD, aNil, aCons, Res.bind_ok, Res.bind_exc, Res.bind_stuck,
  gT, gsCons, gsNil, gN, tupD, lstD, Slot.dat, Slot.shd, List.length_cons, List.length_nil, List.map_cons, List.map_nil, List.replicate, List.append_nil, List.cons_append, List.nil_append, Option.map_some, Option.map_none, Option.bind_some, Option.bind_none,
  List.getElem?_cons_zero, List.getElem?_cons_succ, List.set_cons_zero, List.set_cons_succ, Nat.reduceAdd, Nat.reduceSub, Nat.reduceEqDiff, if_true, if_false, ite_true, ite_false, reduceIte, decide_true, decide_false, reduceCtorEq, Bool.not_true, Bool.not_false, Bool.false_eq_true, Bool.true_eq_false, Bool.or_true, Bool.true_or, Bool.false_or, Bool.or_false, addI, subI, ltI, leI, gtI, geI, eqI, neI, ix_cell0, ix_cell1, E3.le1, E3.le2, E3.le3, E3.le4, E3.le5, E3.le6, beq_self_eq_true])
theorem dd_srt (ps : List (Int × Int)) : (dd (ps.map kOf)).length = (srt ps).length := by
  unfold srt
  rw [List.length_map, (riseK_perm _).length_eq]
theorem sortSetB_big (ps : List (Int × Int)) (hl : (srt ps).length ≤ 4094) : BS.setOfB (ps.map cellD) = .ok (.list ((srt ps).map cellD)) := by
  rw [← srt_cells, cells_enc]
  show (match keysOf ((ps.map kOf).map encK) with
    | some ks => if (dd ks).length ≤ 4094 ∧ (ks.all fun k => !k.isEmpty) = true then Res.ok (PyData.list ((riseK (dd ks)).map encK)) else .stuck
    | none => .stuck) = _
  rw [keysOf_enc]
  have c2 : ((ps.map kOf).all fun k => !k.isEmpty) = true := List.all_eq_true.mpr fun k hk => by
    obtain ⟨p, hp, rfl⟩ := List.mem_map.mp hk; rfl
  simp only []
  rw [if_pos ⟨by rw [dd_srt]; exact hl, c2⟩]
theorem sortSetB_srt (ps : List (Int × Int)) (hl : ps.length ≤ 3999) : BS.setOfB (ps.map cellD) = .ok (.list ((srt ps).map cellD)) := sortSetB_big ps (Nat.le_trans (srt_len ps) (by omega))
def dRisingA : List D → Res D := fnD 1 1 (sRet (eCall tupleD (aCons (e1 BS.sortSetB (eVar 0)) aNil)))
theorem risingA_ok (ps : List (Int × Int)) (hl : ps.length ≤ 3999) : dRisingA [.tuple (ps.map cellD)] = .ok (.tuple ((srt ps).map cellD)) := by
  unfold dRisingA
  walk_at "ev"
  simp only [BS.sortSetB, sortSetB_srt ps hl, Res.bind_ok, tupleD]
  walk_at "ev"
def dOnlyIn : List D → Res D := fnD 4 2 (sSeq (sNew 2 (eC (.dict [])))
  (sSeq (sFor (fun σ => ((eVar 1) σ).bind seqOf) (gN 3)
  (sPut 2 (eVar 3) (eC (.bool true))))
  (sFreeze 2 (sRet (eCall tupleD (aCons (eLc (fun σ => ((eVar 0) σ).bind seqOf) (gN 3) [3] (tB (e2 notInG (eVar 3) (eVar 2))) (eVar 3)) aNil))))))
theorem only_in_ok (ps qs : List (Int × Int)) (hp : ps.length ≤ 10000) (hq : qs.length ≤ 10000) : dOnlyIn [.tuple (ps.map cellD), .tuple (qs.map cellD)] = .ok (.tuple ((minus ps qs).map cellD)) := by
  have hl : ps.length ≤ sizeLine := by have := sizeLine_eq; omega
  unfold dOnlyIn
  walk_at "ev"
  simp only [seqOf, Res.bind_ok, thenR_ok]
  obtain ⟨σ', e, kvs, x3, ho, hk, hlen, rfl⟩ := forS_pre (p := gN 3) (body := sPut 2 (eVar 3) (eC (.bool true))) (g := cellD)
    (Inv := fun pre σ => ∃ (kvs : List (D × D)) (x3 : Option Slot), obK kvs = false ∧ (∀ p, hasK kvs (kOf p) = decide (p ∈ pre)) ∧ kvs.length ≤ pre.length ∧ σ = [some (.sh (.tuple (ps.map cellD))), some (.sh (.tuple (qs.map cellD))), some (.ow (.dict kvs)), x3]) qs
    [some (.sh (.tuple (ps.map cellD))), some (.sh (.tuple (qs.map cellD))), some (.ow (.dict [])), none] ⟨[], none, rfl, fun p => by simp [hasK], Nat.le_refl _, rfl⟩ (by
      rintro pre x post σ he ⟨kvs, x3, ho, hk, hlen, rfl⟩
      have hn : qs.length = pre.length + (post.length + 1) := by rw [he, List.length_append, List.length_cons]
      have hs : kvs.length < sizeLine := by have := sizeLine_eq; omega
      refine ⟨_, _, rfl, .inl ?_, putKD kvs (kOf x) (.bool true), some (.sh (cellD x)), ob_put _ _ ho, fun p => ?_, ?_, rfl⟩
      · have ky : keyOf (cellD x) = some (kOf x) := intsOf_map (kOf x)
        simp only [sPut, ownD, List.getElem?_cons_succ, List.getElem?_cons_zero, List.set_cons_succ, List.set_cons_zero, eC, thenR_ok, mask, List.map_cons, List.map_nil, eVar_succ, eVar_zero, Option.bind_some, Slot.shd, putS, ky, hs, if_true]
      · rw [has_put, hk]
        by_cases z : x = p
        · subst z; simp
        · have z2 : ¬ kOf x = kOf p := fun y => z (kOf_eq.mp y)
          have z3 : p ≠ x := fun y => z y.symm
          simp [z2, z3]
      · have := len_put kvs (kOf x) (.bool true)
        rw [List.length_append, List.length_singleton]; omega)
  simp only [e]
  walk_at "ev"
  simp only [eLc, eVar_zero, seqOf, Res.bind_ok, List.length_map, hl, if_true]
  rw [lc_if (q := cellD) (t := fun p => !decide (p ∈ qs)) ps (fun p hp => by
    refine ⟨_, rfl, ?_, fun _ => rfl⟩
    show tB (e2 notInG (eVar 3) (eVar 2)) [some (.tuple (ps.map cellD)), some (.tuple (qs.map cellD)), some (.dict kvs), some (cellD p)] = _
    have ky : keyOf (cellD p) = some (kOf p) := intsOf_map (kOf p)
    have ni : notInG (cellD p) (.dict kvs) = .ok (.bool (!(valK kvs (kOf p)).isSome)) := notInG_dict ho ky
    walk_at "ev"
    rw [ni, val_has, hk]
    walk_at "ev")]
  simp only [Res.bind_ok, tupleD, thenR_ok]
  rfl
def dOutside : List D → Res D := fnD 3 1 (sSeq (sAsg (gT 2 (gsCons (gN 1) (gsCons (gN 2) gsNil))) (eVar 0))
  (sRet (eTup (aCons (eVar 1) (aCons (e1 notD (eVar 2)) aNil)))))
theorem outside_ok (ps : List (Int × Int)) (b : Bool) : dOutside [shp ps b] = .ok (shp ps (!b)) := rfl
def dBoth : List D → Res D := fnD 2 2 (sSeq (sIf (E3.tAnd (E3.tB (e2 ixD (eVar 0) (eC (.int 1)))) (E3.tB (e2 ixD (eVar 1) (eC (.int 1))))) (sRet (eTup (aCons (eCall dRisingA (aCons (e2 addD (e2 ixD (eVar 0) (eC (.int 0))) (e2 ixD (eVar 1) (eC (.int 0)))) aNil)) (aCons (eC (.bool true)) aNil)))) sNil)
  (sSeq (sIf (E3.tB (e2 ixD (eVar 0) (eC (.int 1)))) (sRet (eTup (aCons (eCall dOnlyIn (aCons (e2 ixD (eVar 1) (eC (.int 0))) (aCons (e2 ixD (eVar 0) (eC (.int 0))) aNil))) (aCons (eC (.bool false)) aNil)))) sNil)
  (sSeq (sIf (E3.tB (e2 ixD (eVar 1) (eC (.int 1)))) (sRet (eTup (aCons (eCall dOnlyIn (aCons (e2 ixD (eVar 0) (eC (.int 0))) (aCons (e2 ixD (eVar 1) (eC (.int 0))) aNil))) (aCons (eC (.bool false)) aNil)))) sNil)
  (sRet (eTup (aCons (eCall dOnlyIn (aCons (e2 ixD (eVar 0) (eC (.int 0))) (aCons (eCall dOnlyIn (aCons (e2 ixD (eVar 0) (eC (.int 0))) (aCons (e2 ixD (eVar 1) (eC (.int 0))) aNil))) aNil))) (aCons (eC (.bool false)) aNil)))))))
def bo (ps : List (Int × Int)) (b : Bool) (qs : List (Int × Int)) (c : Bool) : List (Int × Int) := match b, c with
  | true, true => srt (ps ++ qs)
  | true, false => minus qs ps
  | false, true => minus ps qs
  | false, false => minus ps (minus ps qs)
theorem add_cells (ps qs : List (Int × Int)) (h : ps.length + qs.length ≤ 10000) : addD (.tuple (ps.map cellD)) (.tuple (qs.map cellD)) = .ok (.tuple ((ps ++ qs).map cellD)) := by
  have : (ps.map cellD).length + (qs.map cellD).length ≤ sizeLine := by rw [List.length_map, List.length_map]; have := sizeLine_eq; omega
  unfold addD
  simp only [this, if_true, List.map_append]
theorem both_ok (ps qs : List (Int × Int)) (b c : Bool) (h : ps.length + qs.length ≤ 3999) : dBoth [shp ps b, shp qs c] = .ok (shp (bo ps b qs c) (b && c)) := by
  unfold dBoth
  walk_at "ev"
  cases b <;> cases c
  · walk_at "ev"
    rw [only_in_ok ps qs (by omega) (by omega)]
    walk_at "ev"
    rw [only_in_ok ps (minus ps qs) (by omega) (by have := len_minus ps qs; omega)]
    walk_at "ev"
    rfl
  · walk_at "ev"
    rw [only_in_ok ps qs (by omega) (by omega)]
    walk_at "ev"
    rfl
  · walk_at "ev"
    rw [only_in_ok qs ps (by omega) (by omega)]
    walk_at "ev"
    rfl
  · walk_at "ev"
    rw [add_cells ps qs (by omega)]
    walk_at "ev"
    rw [risingA_ok _ (by rw [List.length_append]; omega)]
    walk_at "ev"
    rfl
abbrev hasB (ps : List (Int × Int)) (b : Bool) (p : Int × Int) : Bool := decide (p ∈ ps) != b
theorem pw_bo {ps qs : List (Int × Int)} {b c : Bool} (hp : ps.Pairwise ltP) (hq : qs.Pairwise ltP) : (bo ps b qs c).Pairwise ltP := by
  cases b <;> cases c
  · exact pw_minus hp
  · exact pw_minus hp
  · exact pw_minus hq
  · exact pw_srt _
theorem has_bo (ps qs : List (Int × Int)) (b c : Bool) (p : Int × Int) : hasB (bo ps b qs c) (b && c) p = (hasB ps b p && hasB qs c p) := by
  cases b <;> cases c
  · show (decide (p ∈ minus ps (minus ps qs)) != false) = _
    by_cases h1 : p ∈ ps <;> by_cases h2 : p ∈ qs <;> simp [mem_minus, h1, h2]
  · show (decide (p ∈ minus ps qs) != false) = _
    by_cases h1 : p ∈ ps <;> by_cases h2 : p ∈ qs <;> simp [mem_minus, h1, h2]
  · show (decide (p ∈ minus qs ps) != false) = _
    by_cases h1 : p ∈ ps <;> by_cases h2 : p ∈ qs <;> simp [mem_minus, h1, h2]
  · show (decide (p ∈ srt (ps ++ qs)) != true) = _
    by_cases h1 : p ∈ ps <;> by_cases h2 : p ∈ qs <;> simp [mem_srt, h1, h2]
theorem len_bo (ps qs : List (Int × Int)) (b c : Bool) : (bo ps b qs c).length ≤ ps.length + qs.length := by
  cases b <;> cases c
  · exact Nat.le_trans (len_minus _ _) (by omega)
  · exact Nat.le_trans (len_minus _ _) (by omega)
  · exact Nat.le_trans (len_minus _ _) (by omega)
  · exact Nat.le_trans (srt_len _) (by rw [List.length_append]; omega)
theorem has_uniq {ps qs : List (Int × Int)} {b : Bool} (hp : ps.Pairwise ltP) (hq : qs.Pairwise ltP) (h : ∀ p, hasB ps b p = hasB qs b p) : ps = qs :=
  rise_uniq hp hq fun p => by
    have := h p
    unfold hasB at this
    have h2 : decide (p ∈ ps) = decide (p ∈ qs) := by
      cases b <;> simpa using this
    exact decide_eq_decide.mp h2
def dEither : List D → Res D := fnD 2 2 (sRet (eCall dOutside (aCons (eCall dBoth (aCons (eCall dOutside (aCons (eVar 0) aNil)) (aCons (eCall dOutside (aCons (eVar 1) aNil)) aNil))) aNil)))
theorem either_ok (ps qs : List (Int × Int)) (b c : Bool) (h : ps.length + qs.length ≤ 3999) : dEither [shp ps b, shp qs c] = .ok (shp (bo ps (!b) qs (!c)) (!(!b && !c))) := by
  unfold dEither
  walk_at "ev"
  rw [outside_ok, outside_ok]
  walk_at "ev"
  rw [both_ok _ _ _ _ h]
  walk_at "ev"
  rw [outside_ok]
  walk_at "ev"
def dWithin : List D → Res D := fnD 2 2 (sRet (e2 eqD (eCall dBoth (aCons (eVar 0) (aCons (eVar 1) aNil))) (eVar 0)))
theorem within_ok (ps qs : List (Int × Int)) (b c : Bool) (h : ps.length + qs.length ≤ 3999) : dWithin [shp ps b, shp qs c] = .ok (.bool (decide (bo ps b qs c = ps) && ((b && c) == b))) := by
  unfold dWithin
  walk_at "ev"
  rw [both_ok _ _ _ _ h]
  walk_at "ev"
  rw [eq_shp]
  walk_at "ev"
end E3

namespace E3
open PySem PySem.Spec PyProof.Rows L2
theorem beyond : ∀ l : List (Int × Int), ∃ n : Int, ∀ p ∈ l, p.1 < n
  | [] => ⟨0, fun p h => by cases h⟩
  | q :: l => by
    obtain ⟨n, h⟩ := beyond l
    refine ⟨if q.1 < n then n else q.1 + 1, fun p hp => ?_⟩
    rcases List.mem_cons.mp hp with rfl | hp
    · split <;> omega
    · have := h p hp
      split <;> omega
theorem fresh_cell (l : List (Int × Int)) : ∃ p : Int × Int, p ∉ l := by
  obtain ⟨n, h⟩ := beyond l
  exact ⟨(n, 0), fun z => by have := h _ z; simp at this⟩
def inn (ps : List (Int × Int)) (b : Bool) (qs : List (Int × Int)) (c : Bool) : Bool := decide (bo ps b qs c = ps) && ((b && c) == b)
def Sub (ps : List (Int × Int)) (b : Bool) (qs : List (Int × Int)) (c : Bool) : Prop := ∀ p, hasB ps b p = true → hasB qs c p = true
theorem sub_rest {ps qs : List (Int × Int)} {b c : Bool} (h : Sub ps b qs c) : (b && c) = b := by
  cases b with
  | false => rfl
  | true =>
    cases c with
    | true => rfl
    | false =>
      obtain ⟨p, hp⟩ := fresh_cell (ps ++ qs)
      have h1 : p ∉ ps := fun z => hp (List.mem_append_left _ z)
      have h2 : p ∉ qs := fun z => hp (List.mem_append_right _ z)
      have := h p (by unfold hasB; rw [decide_eq_false h1]; rfl)
      unfold hasB at this
      rw [decide_eq_false h2] at this
      cases this
theorem inn_sub {ps qs : List (Int × Int)} {b c : Bool} (hp : ps.Pairwise ltP) (hq : qs.Pairwise ltP) : inn ps b qs c = true ↔ Sub ps b qs c := by
  unfold inn
  rw [Bool.and_eq_true, decide_eq_true_eq, beq_iff_eq]
  constructor
  · rintro ⟨e, r⟩ p h
    have k := has_bo ps qs b c p
    rw [e, r, h] at k
    simpa using k.symm
  · intro h
    have r := sub_rest h
    refine ⟨has_uniq (b := b) (pw_bo hp hq) hp fun p => ?_, r⟩
    have k := has_bo ps qs b c p
    rw [r] at k
    rw [k]
    cases z : hasB ps b p with
    | false => rfl
    | true => rw [h p z]; rfl
theorem has_ei (ps qs : List (Int × Int)) (b c : Bool) (p : Int × Int) : hasB (bo ps (!b) qs (!c)) (!(!b && !c)) p = (hasB ps b p || hasB qs c p) := by
  have k := has_bo ps qs (!b) (!c) p
  unfold hasB at k ⊢
  revert k
  generalize decide (p ∈ bo ps (!b) qs (!c)) = u
  generalize decide (p ∈ ps) = v
  generalize decide (p ∈ qs) = w
  cases b <;> cases c <;> cases u <;> cases v <;> cases w <;> decide
section
variable {ps qs rs : List (Int × Int)} {b c d : Bool} (hp : ps.Pairwise ltP) (hq : qs.Pairwise ltP) (hr : rs.Pairwise ltP)
theorem boolEq {x y : Bool} (h : x = true ↔ y = true) : x = y := by cases x <;> cases y <;> simp_all
include hp hq in
theorem in_both1 : inn (bo ps b qs c) (b && c) ps b = true := (inn_sub (pw_bo hp hq) hp).mpr fun p h => by rw [has_bo, Bool.and_eq_true] at h; exact h.1
include hp hq in
theorem in_both2 : inn (bo ps b qs c) (b && c) qs c = true := (inn_sub (pw_bo hp hq) hq).mpr fun p h => by rw [has_bo, Bool.and_eq_true] at h; exact h.2
include hp hq in
theorem in_either1 : inn ps b (bo ps (!b) qs (!c)) (!(!b && !c)) = true := (inn_sub hp (pw_bo hp hq)).mpr fun p h => by rw [has_ei, h]; rfl
include hp hq in
theorem in_either2 : inn qs c (bo ps (!b) qs (!c)) (!(!b && !c)) = true := (inn_sub hq (pw_bo hp hq)).mpr fun p h => by rw [has_ei, h, Bool.or_true]
include hp hq hr in
theorem below_both : (inn rs d ps b && inn rs d qs c) = inn rs d (bo ps b qs c) (b && c) := boolEq (by
  rw [Bool.and_eq_true, inn_sub hr hp, inn_sub hr hq, inn_sub hr (pw_bo hp hq)]
  constructor
  · rintro ⟨h, k⟩ p z
    rw [has_bo, h p z, k p z]; rfl
  · intro h
    exact ⟨fun p z => by have := h p z; rw [has_bo, Bool.and_eq_true] at this; exact this.1, fun p z => by have := h p z; rw [has_bo, Bool.and_eq_true] at this; exact this.2⟩)
include hp hq hr in
theorem above_either : (inn ps b rs d && inn qs c rs d) = inn (bo ps (!b) qs (!c)) (!(!b && !c)) rs d := boolEq (by
  rw [Bool.and_eq_true, inn_sub hp hr, inn_sub hq hr, inn_sub (pw_bo hp hq) hr]
  constructor
  · rintro ⟨h, k⟩ p z
    rw [has_ei, Bool.or_eq_true] at z
    rcases z with z | z
    · exact h p z
    · exact k p z
  · intro h
    exact ⟨fun p z => h p (by rw [has_ei, z]; rfl), fun p z => h p (by rw [has_ei, z, Bool.or_true])⟩)
include hp hq hr in
theorem inn_trans (h : inn ps b qs c = true) (k : inn qs c rs d = true) : inn ps b rs d = true :=
  (inn_sub hp hr).mpr fun p z => (inn_sub hq hr).mp k p ((inn_sub hp hq).mp h p z)
theorem has_not (l : List (Int × Int)) (x : Bool) (p : Int × Int) : hasB l (!x) p = !hasB l x p := by
  unfold hasB
  cases decide (p ∈ l) <;> cases x <;> rfl
include hp hq in
theorem inn_turn : inn ps b qs c = inn qs (!c) ps (!b) := boolEq (by
  rw [inn_sub hp hq, inn_sub hq hp]
  constructor
  · intro h p z
    rw [has_not] at z ⊢
    cases y : hasB ps b p with
    | false => rfl
    | true => rw [h p y] at z; cases z
  · intro h p z
    have k := h p
    rw [has_not, has_not, z] at k
    cases y : hasB qs c p with
    | true => rfl
    | false => rw [y] at k; exact absurd (k rfl) (by decide))
include hp hq in
theorem inn_same : (inn ps b qs c && inn qs c ps b) = (decide (ps = qs) && (b == c)) := boolEq (by
  rw [Bool.and_eq_true, inn_sub hp hq, inn_sub hq hp, Bool.and_eq_true, decide_eq_true_eq, beq_iff_eq]
  constructor
  · rintro ⟨h, k⟩
    have e1 := sub_rest h
    have e2 := sub_rest k
    have e : b = c := by revert e1 e2; cases b <;> cases c <;> decide
    subst e
    exact ⟨has_uniq (b := b) hp hq fun p => boolEq ⟨h p, k p⟩, rfl⟩
  · rintro ⟨rfl, rfl⟩
    exact ⟨fun p z => z, fun p z => z⟩)
include hp hq in
theorem counts : (bo ps false qs false).length + (bo ps true qs true).length = ps.length + qs.length := by
  have np := pw_nodup hp
  have nq := pw_nodup hq
  have e1 : (bo ps false qs false).Perm (qs.filter fun p => decide (p ∈ ps)) := (List.perm_ext_iff_of_nodup (pw_nodup (pw_bo (b := false) (c := false) hp hq)) (nq.filter _)).mpr fun p => by
    show p ∈ minus ps (minus ps qs) ↔ _
    rw [mem_minus, mem_minus, List.mem_filter, decide_eq_true_eq]
    by_cases h1 : p ∈ ps <;> by_cases h2 : p ∈ qs <;> simp [h1, h2]
  have e2 : (bo ps true qs true).Perm (ps ++ minus qs ps) := (List.perm_ext_iff_of_nodup (pw_nodup (pw_bo (b := true) (c := true) hp hq)) (List.nodup_append.mpr ⟨np, nq.filter _, fun a ha b hb e => (mem_minus.mp hb).2 (e ▸ ha)⟩)).mpr fun p => by
    show p ∈ srt (ps ++ qs) ↔ _
    rw [mem_srt, List.mem_append, List.mem_append, List.mem_filter]
    by_cases h1 : p ∈ ps <;> by_cases h2 : p ∈ qs <;> simp [h1, h2]
  have e3 : (qs.filter fun p => decide (p ∈ ps)).length + (minus qs ps).length = qs.length := by
    unfold minus
    clear hq nq e1 e2
    induction qs with
    | nil => rfl
    | cons q qs ih =>
      rw [List.filter_cons, List.filter_cons]
      cases z : decide (q ∈ ps)
      · simp only [Bool.not_false, if_true, Bool.false_eq_true, if_false, List.length_cons]
        omega
      · simp only [Bool.not_true, if_true, Bool.false_eq_true, if_false, List.length_cons]
        omega
  rw [e1.length_eq, e2.length_eq, List.length_append]
  omega
end
def pick (met x y : Bool) : Bool := if met then (x && y) else (x || y)
def jTest (ps : List (Int × Int)) (b : Bool) (qs : List (Int × Int)) (c met : Bool) (p : Int × Int) : Bool := pick met (hasB ps b p) (hasB qs c p) != pick met b c
def jo (ps : List (Int × Int)) (b : Bool) (qs : List (Int × Int)) (c met : Bool) : List (Int × Int) := (srt (ps ++ qs)).filter (jTest ps b qs c met)
theorem pw_jo (ps qs : List (Int × Int)) (b c met : Bool) : (jo ps b qs c met).Pairwise ltP := (pw_srt _).filter _
theorem has_jo (ps qs : List (Int × Int)) (b c met : Bool) (p : Int × Int) : hasB (jo ps b qs c met) (pick met b c) p = pick met (hasB ps b p) (hasB qs c p) := by
  have m : decide (p ∈ jo ps b qs c met) = (decide (p ∈ ps ++ qs) && jTest ps b qs c met p) := by
    unfold jo
    by_cases h1 : p ∈ ps ++ qs
    · have h2 : p ∈ srt (ps ++ qs) := mem_srt.mpr h1
      cases h3 : jTest ps b qs c met p <;> simp [h1, h2, h3, List.mem_filter]
    · have h2 : p ∉ srt (ps ++ qs) := fun z => h1 (mem_srt.mp z)
      simp only [List.mem_filter, h1, h2, false_and, decide_false, Bool.false_and]
  show (decide (p ∈ jo ps b qs c met) != pick met b c) = _
  rw [m]
  have e : decide (p ∈ ps ++ qs) = (decide (p ∈ ps) || decide (p ∈ qs)) := by
    by_cases h1 : p ∈ ps <;> by_cases h2 : p ∈ qs <;> simp [h1, h2]
  rw [e]
  unfold jTest hasB
  generalize decide (p ∈ ps) = u
  generalize decide (p ∈ qs) = v
  cases met <;> cases b <;> cases c <;> cases u <;> cases v <;> rfl
theorem joined_both (ps qs : List (Int × Int)) (b c : Bool) (hp : ps.Pairwise ltP) (hq : qs.Pairwise ltP) : jo ps b qs c true = bo ps b qs c :=
  has_uniq (b := b && c) (pw_jo ..) (pw_bo hp hq) fun p => by
    have h := has_jo ps qs b c true p
    rw [has_bo]
    exact h
theorem joined_either (ps qs : List (Int × Int)) (b c : Bool) (hp : ps.Pairwise ltP) (hq : qs.Pairwise ltP) : jo ps b qs c false = bo ps (!b) qs (!c) :=
  has_uniq (b := b || c) (pw_jo ..) (pw_bo hp hq) fun p => by
    have h := has_jo ps qs b c false p
    have k := has_bo ps qs (!b) (!c) p
    refine h.trans ?_
    show (hasB ps b p || hasB qs c p) = (decide (p ∈ bo ps (!b) qs (!c)) != (b || c))
    unfold hasB at k ⊢
    revert k
    generalize decide (p ∈ bo ps (!b) qs (!c)) = u
    generalize decide (p ∈ ps) = v
    generalize decide (p ∈ qs) = w
    cases b <;> cases c <;> cases u <;> cases v <;> cases w <;> decide
theorem rest_either (b c : Bool) : (!(!b && !c)) = pick false b c := by cases b <;> cases c <;> rfl
end E3

namespace E3
open PySem PySem.Spec PyProof.Rows L2
theorem negI (i : Int) : negD (.int i) = .ok (.int (-i)) := rfl
theorem powL {i j : Int} (h : decide (0 ≤ j ∧ j ≤ 1000000 ∧ i.natAbs < 2 ^ 64) = true) : powD (.int i) (.int j) = .ok (.int (i ^ j.toNat)) := powI h
theorem mulLL {i j : Int} (h : decide (i.natAbs < 2 ^ 200 ∧ j.natAbs < 2 ^ 200) = true) : mulD (.int i) (.int j) = .ok (.int (i * j)) := by
  have := of_decide_eq_true h
  exact mulI 200 200 this.1 this.2 (by decide)
theorem mulB {i j : Int} (a b : Nat) (hi : -(2 ^ a) < i ∧ i < 2 ^ a) (hj : -(2 ^ b) < j ∧ j < 2 ^ b) (h : a + b < 1000000) : mulD (.int i) (.int j) = .ok (.int (i * j)) := by
  refine mulI a b ?_ ?_ h
  · have h1 : ((i.natAbs : Nat) : Int) < ((2 ^ a : Nat) : Int) := by push_cast; omega
    exact_mod_cast h1
  · have h1 : ((j.natAbs : Nat) : Int) < ((2 ^ b : Nat) : Int) := by push_cast; omega
    exact_mod_cast h1
local macro_rules | `(tactic| walk_at "ev") => `(tactic| try simp (disch := first | decide | decide +kernel | omega) only [fnD, startF, endF, sSeq, sAsg, sSet, sSetV, sAsgV, sIf, sRet, sNew, sNewV, sMut, sMutV, sFor, sForR, sFreeze, sNil, sExpr, optK, thenR_ok, thenR_exc, thenR_stuck,
  view, mask, E3.eVar_zero, E3.eVar_succ, eC, e1, e2, eCall, eTup, eLst, eSl, oNone, oSome, eAnd, eOr, eIf, E3.tAnd, E3.tOr, E3.tNot, E3.tB, asB, notD, aNil, aCons, Res.bind_ok, Res.bind_exc, Res.bind_stuck,
  gT, gsCons, gsNil, gN, tupD, lstD, Slot.dat, Slot.shd, List.length_cons, List.length_nil, List.map_cons, List.map_nil, List.replicate, List.append_nil, List.cons_append, List.nil_append, Option.map_some, Option.map_none, Option.bind_some, Option.bind_none,
  List.getElem?_cons_zero, List.getElem?_cons_succ, List.set_cons_zero, List.set_cons_succ, Nat.reduceAdd, Nat.reduceSub, Nat.reduceEqDiff, if_true, if_false, ite_true, ite_false, reduceIte, decide_true, decide_false, reduceCtorEq, Bool.not_true, Bool.not_false, Bool.false_eq_true, Bool.true_eq_false, Bool.or_true, Bool.true_or, Bool.false_or, Bool.or_false, Bool.and_true, Bool.and_false, Bool.true_and, Bool.false_and, addI, subI, ltI, leI, gtI, geI, eqI, neI, negI, ix_cell0, ix_cell1, E3.le0, E3.le1, E3.le2, E3.le3, E3.le4, E3.le5, E3.le6, beq_self_eq_true, divmodI, modI, fdivI, powL, mulLL])
theorem rng1_nat {m : Int} (h : 0 ≤ m) (k : m ≤ 100000) : rng1 [.int m] = .ok ((List.range m.toNat).map fun k : Nat => PyData.int (k : Nat)) := by
  have e : rng1 [.int m] = .ok (rangeD 0 m) := by
    show (if _ then _ else _) = _
    rw [if_pos ⟨by omega, by omega⟩]
  rw [e]
  unfold rangeD
  simp
def deal2B : SF := (sSeq (sSet 2 (e2 modD (e2 mulD (e2 addD (e2 addD (e2 addD (eVar 2) (e2 mulD (e2 mulD (eC (.int 15)) (eVar 4)) (eVar 4))) (e2 mulD (eC (.int 31)) (eVar 1))) (eC (.int 11))) (eC (.int 48271))) (eC (.int 2147483647))))
  (sSeq (sSet 2 (e2 modD (e2 mulD (eVar 2) (eVar 2)) (eC (.int 2147483629))))
  (sSet 3 (e2 addD (e2 mulD (eVar 3) (eC (.int 998244353))) (e2 fdivD (e2 modD (e2 mulD (eVar 2) (eC (.int 69621))) (eC (.int 2147483587))) (eC (.int 7)))))))
def lawDeal2 : List D → Res D := fnD 5 2 (sSeq (sIf (tB (e2 geD (eVar 0) (e2 powD (eC (.int 10)) (eC (.int 18))))) (sRet (e2 subD (eVar 0) (e2 powD (eC (.int 10)) (eC (.int 18))))) sNil)
  (sSeq (sSet 2 (e2 modD (eVar 0) (eC (.int 2147483629))))
  (sSeq (sSet 3 (eC (.int 0)))
  (sSeq (sFor (fun σ => ((aCons (eC (.int 24)) aNil) σ).bind rng1) (gN 4) deal2B)
  (sRet (eVar 3))))))
theorem deal2_turn (c s one number : Int) (k : Nat) (b : Nat) (hs : 0 ≤ s ∧ s < 100) (hk : k < 24) (ho : 0 ≤ one ∧ one < 2147483647) (hn : 0 ≤ number ∧ number < 2 ^ b) (hb : b + 32 < 999990) :
    ∃ one' number' : Int, (0 ≤ one' ∧ one' < 2147483647) ∧ (0 ≤ number' ∧ number' < 2 ^ (b + 32)) ∧
      deal2B [some (.sh (.int c)), some (.sh (.int s)), some (.sh (.int one)), some (.sh (.int number)), some (.sh (.int (k : Nat)))]
        = .ok .nx [some (.sh (.int c)), some (.sh (.int s)), some (.sh (.int one')), some (.sh (.int number')), some (.sh (.int (k : Nat)))] := by
  have hkI : (0 : Int) ≤ (k : Nat) ∧ ((k : Nat) : Int) < 24 := by omega
  generalize ((k : Nat) : Int) = j at hkI ⊢
  unfold deal2B
  walk_at "ev"
  rw [mulB 8 8 (by omega) (by omega) (by decide)]
  walk_at "ev"
  have h15 : 0 ≤ 15 * j ∧ 15 * j < 360 := by omega
  rw [mulB 16 8 (by omega) (by omega) (by decide)]
  walk_at "ev"
  rw [mulB 8 8 (by omega) (by omega) (by decide)]
  walk_at "ev"
  have hq : 0 ≤ 15 * j * j ∧ 15 * j * j < 9000 := by
    have h1 : 0 ≤ 15 * j * j := Int.mul_nonneg h15.1 hkI.1
    have h2 : 15 * j * j ≤ 15 * j * 24 := Int.mul_le_mul_of_nonneg_left (by omega) h15.1
    omega
  generalize 15 * j * j = q at hq ⊢
  rw [mulB 40 20 (by omega) (by omega) (by decide)]
  walk_at "ev"
  have hm : 0 ≤ (one + q + 31 * s + 11) * 48271 % 2147483647 ∧ (one + q + 31 * s + 11) * 48271 % 2147483647 < 2147483647 := ⟨Int.emod_nonneg _ (by decide), Int.emod_lt_of_pos _ (by decide)⟩
  generalize (one + q + 31 * s + 11) * 48271 % 2147483647 = o at hm ⊢
  rw [mulB 32 32 (by omega) (by omega) (by decide)]
  walk_at "ev"
  have hm2 : 0 ≤ o * o % 2147483629 ∧ o * o % 2147483629 < 2147483629 := ⟨Int.emod_nonneg _ (by decide), Int.emod_lt_of_pos _ (by decide)⟩
  generalize o * o % 2147483629 = t at hm2 ⊢
  have hp : (0 : Int) < 2 ^ b := Int.pow_pos (by decide)
  rw [mulB b 32 (by omega) (by omega) (by omega)]
  walk_at "ev"
  rw [mulB 32 20 (by omega) (by omega) (by decide)]
  walk_at "ev"
  have hm3 : 0 ≤ t * 69621 % 2147483587 / 7 ∧ t * 69621 % 2147483587 / 7 < 2147483587 := by
    have h1 : 0 ≤ t * 69621 % 2147483587 := Int.emod_nonneg _ (by decide)
    have h2 : t * 69621 % 2147483587 < 2147483587 := Int.emod_lt_of_pos _ (by decide)
    omega
  generalize t * 69621 % 2147483587 / 7 = u at hm3 ⊢
  refine ⟨t, number * 998244353 + u, by omega, ⟨by omega, ?_⟩, rfl⟩
  have e : (2 : Int) ^ (b + 32) = 2 ^ b * 4294967296 := by rw [Int.pow_add]; rfl
  omega
theorem deal2_ok (c s : Int) (hs : 0 ≤ s ∧ s < 100) : ∃ n : Int, 0 ≤ n ∧ lawDeal2 [.int c, .int s] = .ok (.int n) := by
  by_cases hc : (1000000000000000000 : Int) ≤ c
  · refine ⟨c - 10 ^ 18, by omega, ?_⟩
    unfold lawDeal2
    walk_at "ev"
    have e : decide ((10 : Int) ^ Int.toNat 18 ≤ c) = true := decide_eq_true (by show (10 : Int) ^ 18 ≤ c; omega)
    rw [e]
    walk_at "ev"
    rfl
  · obtain ⟨σ', e, one', number', x4, _, hn, rfl⟩ := forS_pre (p := gN 4) (body := deal2B) (g := fun k : Nat => PyData.int (k : Nat))
      (Inv := fun pre σ => ∃ (one number : Int) (x4 : Option Slot), (0 ≤ one ∧ one < 2147483647) ∧ (0 ≤ number ∧ number < 2 ^ (32 * pre.length)) ∧
        σ = [some (.sh (.int c)), some (.sh (.int s)), some (.sh (.int one)), some (.sh (.int number)), x4]) (List.range 24)
      [some (.sh (.int c)), some (.sh (.int s)), some (.sh (.int (c % 2147483629))), some (.sh (.int 0)), none]
      ⟨_, 0, none, ⟨Int.emod_nonneg _ (by decide), by have := Int.emod_lt_of_pos c (show (0 : Int) < 2147483629 by decide); omega⟩, ⟨by omega, by decide⟩, rfl⟩ (by
      rintro pre k post σ he ⟨one, number, x4, ho, hn, rfl⟩
      have hk : k < 24 := List.mem_range.mp (by rw [he]; simp)
      have hl : pre.length < 24 := by
        have := congrArg List.length he
        rw [List.length_range, List.length_append, List.length_cons] at this
        omega
      obtain ⟨one', number', h1, h2, h3⟩ := deal2_turn c s one number k (32 * pre.length) hs hk ho hn (by omega)
      refine ⟨_, _, rfl, .inl h3, one', number', some (.sh (.int (k : Nat))), h1, ⟨h2.1, ?_⟩, rfl⟩
      rw [List.length_append, List.length_singleton, Nat.mul_add, Nat.mul_one]
      exact h2.2)
    refine ⟨number', hn.1, ?_⟩
    unfold lawDeal2
    walk_at "ev"
    have e1 : decide ((10 : Int) ^ Int.toNat 18 ≤ c) = false := decide_eq_false (by show ¬ (10 : Int) ^ 18 ≤ c; omega)
    rw [e1]
    walk_at "ev"
    rw [rng1_nat (by decide) (by decide)]
    walk_at "ev"
    rw [show Int.toNat 24 = 24 from rfl, e]
    walk_at "ev"
end E3

namespace E3
open PySem PySem.Spec PyProof.Rows L2
local macro_rules | `(tactic| walk_at "ev") => `(tactic| try simp (disch := first | decide | decide +kernel | omega) only [fnD, startF, endF, sSeq, sAsg, sSet, sSetV, sAsgV, sIf, sRet, sNew, sNewV, sMut, sMutV, sFor, sForR, sFreeze, sNil, sExpr, optK, thenR_ok, thenR_exc, thenR_stuck,
  view, mask, E3.eVar_zero, E3.eVar_succ, eC, e1, e2, eCall, eTup, eLst, eSl, oNone, oSome, eAnd, eOr, eIf, E3.tAnd, E3.tOr, E3.tNot, E3.tB, asB, notD, aNil, aCons, Res.bind_ok, Res.bind_exc, Res.bind_stuck,
  gT, gsCons, gsNil, gN, tupD, lstD, Slot.dat, Slot.shd, List.length_cons, List.length_nil, List.map_cons, List.map_nil, List.replicate, List.append_nil, List.cons_append, List.nil_append, Option.map_some, Option.map_none, Option.bind_some, Option.bind_none,
  List.getElem?_cons_zero, List.getElem?_cons_succ, List.set_cons_zero, List.set_cons_succ, Nat.reduceAdd, Nat.reduceSub, Nat.reduceEqDiff, if_true, if_false, ite_true, ite_false, reduceIte, decide_true, decide_false, reduceCtorEq, Bool.not_true, Bool.not_false, Bool.false_eq_true, Bool.true_eq_false, Bool.or_true, Bool.true_or, Bool.false_or, Bool.or_false, Bool.and_true, Bool.and_false, Bool.true_and, Bool.false_and, addI, subI, ltI, leI, gtI, geI, eqI, neI, negI, ix_cell0, ix_cell1, E3.le0, E3.le1, E3.le2, E3.le3, E3.le4, E3.le5, E3.le6, beq_self_eq_true, divmodI, modI, fdivI, powL, mulLL])
def SN (r : SR) (P : SS → Prop) : Prop := ∃ σ, r = .ok .nx σ ∧ P σ
theorem SN.ok {σ : SS} {P : SS → Prop} (h : P σ) : SN (.ok .nx σ) P := ⟨σ, rfl, h⟩
def ST (r : SR) (P : D → Prop) : Prop := ∃ d σ, r = .ok (.rt d) σ ∧ P d
theorem ST.ok {d : D} {σ : SS} {P : D → Prop} (h : P d) : ST (.ok (.rt d) σ) P := ⟨d, σ, rfl, h⟩
def RP (r : Res D) (P : D → Prop) : Prop := ∃ d, r = .ok d ∧ P d
theorem RP.ok {d : D} {P : D → Prop} (h : P d) : RP (.ok d) P := ⟨d, rfl, h⟩
def dctT (qs : List (Int × Int)) : List (D × D) := qs.map fun p => (cellD p, .bool true)
theorem key_cell (p : Int × Int) : keyOf (cellD p) = some (kOf p) := intsOf_map (kOf p)
theorem dct_any (qs : List (Int × Int)) (p : Int × Int) : ((dctT qs).any fun e => decide (keyOf e.1 = some (kOf p))) = decide (p ∈ qs) := by
  induction qs with
  | nil => rfl
  | cons q qs ih =>
    show (decide (keyOf (cellD q) = some (kOf p)) || (dctT qs).any _) = _
    rw [ih, key_cell]
    by_cases h : p = q
    · subst h; simp
    · have h2 : ¬ kOf q = kOf p := fun e => h (kOf_eq.mp e).symm
      simp [h, h2]
theorem put_dct (qs : List (Int × Int)) (p : Int × Int) : putKD (dctT qs) (kOf p) (.bool true) = dctT (if p ∈ qs then qs else qs ++ [p]) := by
  unfold putKD
  rw [dct_any]
  by_cases h : p ∈ qs
  · rw [if_pos (decide_eq_true h), if_pos h]
    unfold dctT
    rw [List.map_map]
    apply List.map_congr_left
    intro q _
    show (if keyOf (cellD q) = some (kOf p) then (cellD q, PyData.bool true) else (cellD q, PyData.bool true)) = _
    split <;> rfl
  · rw [if_neg (by simpa using h), if_neg h]
    unfold dctT
    rw [List.map_append]; rfl
theorem dct_len (qs : List (Int × Int)) : (dctT qs).length = qs.length := List.length_map ..
def addC (qs : List (Int × Int)) (p : Int × Int) : List (Int × Int) := if p ∈ qs then qs else qs ++ [p]
theorem mem_addC {qs : List (Int × Int)} {p q : Int × Int} : q ∈ addC qs p ↔ q ∈ qs ∨ q = p := by
  unfold addC
  split
  · rename_i h
    exact ⟨.inl, fun z => z.elim id fun e => e ▸ h⟩
  · simp
theorem nd_addC {qs : List (Int × Int)} {p : Int × Int} (h : qs.Nodup) : (addC qs p).Nodup := by
  unfold addC
  split
  · exact h
  · rename_i hp
    exact List.nodup_append.mpr ⟨h, by simp, fun a ha b hb e => hp (by rw [List.mem_singleton.mp hb] at e; rw [← e]; exact ha)⟩
theorem len_addC (qs : List (Int × Int)) (p : Int × Int) : (addC qs p).length ≤ qs.length + 1 := by
  unfold addC
  split
  · omega
  · rw [List.length_append, List.length_singleton]; omega
theorem addC_ne (qs : List (Int × Int)) (p : Int × Int) : addC qs p ≠ [] := fun e => by
  have : p ∈ addC qs p := mem_addC.mpr (.inr rfl)
  rw [e] at this; cases this
theorem putS_dct {j : Nat} {σ : SS} {qs : List (Int × Int)} {p : Int × Int} (h : qs.length < sizeLine) : putS j σ (dctT qs) (cellD p) (.bool true) = .ok .nx (σ.set j (some (.ow (.dict (dctT (addC qs p)))))) := by
  unfold putS
  simp only [key_cell]
  rw [if_pos (by rw [dct_len]; exact h), put_dct]
  rfl
theorem SN_put {j : Nat} {σ : SS} {qs : List (Int × Int)} {a b : Int} {P : SS → Prop} (h : qs.length < sizeLine) (k : P (σ.set j (some (.ow (.dict (dctT (addC qs (a, b)))))))) : SN (putS j σ (dctT qs) (.tuple [.int a, .int b]) (.bool true)) P :=
  ⟨_, putS_dct (p := (a, b)) h, k⟩
theorem sortL_srt {qs : List (Int × Int)} (hn : qs.Nodup) : sortL (qs.map cellD) = (srt qs).map cellD := by
  rw [← srt_cells, dd_nodup (kOf_nodup hn), cells_enc, sortL_enc]
theorem sort_dct {qs : List (Int × Int)} (hn : qs.Nodup) : sortAnyD [.dict (dctT qs)] = .ok (.list ((srt qs).map cellD)) := by
  have h1 : (dctT qs).all keyNE = true := List.all_eq_true.mpr fun e he => by
    obtain ⟨p, _, rfl⟩ := List.mem_map.mp he; rfl
  have h2 : (dctT qs).map (·.1) = qs.map cellD := by unfold dctT; rw [List.map_map]; rfl
  show (if (dctT qs).all keyNE = true then Res.ok (PyData.list (sortL ((dctT qs).map (·.1)))) else .stuck) = _
  rw [if_pos h1, h2, sortL_srt hn]
theorem sort_perm (ps : List (Int × Int)) (hl : ps.length ≤ sizeLine) : ∃ qs : List (Int × Int), sortedD [.list (ps.map cellD)] = .ok (.list (qs.map cellD)) ∧ qs.Perm ps := by
  have ok : sortOk (ps.map cellD) = true := by
    unfold sortOk
    have a1 : ((ps.map cellD).all fun d => (ps.map cellD).all fun e => PySem.W.alike d e) = true := List.all_eq_true.mpr fun d hd => List.all_eq_true.mpr fun e he => by
      obtain ⟨p, _, rfl⟩ := List.mem_map.mp hd
      obtain ⟨q, _, rfl⟩ := List.mem_map.mp he
      exact alike_encK (kOf p) (kOf q)
    have a2 : (ps.map cellD).all isTupNE = true := List.all_eq_true.mpr fun d hd => by
      obtain ⟨p, _, rfl⟩ := List.mem_map.mp hd; rfl
    have a3 := lay_cells ps
    have a4 : PyData.depthAll (ps.map cellD) ≤ 64 := Nat.le_trans (deep_cells ps) (by decide)
    rw [a1, a2, a3, decide_eq_true a4, decide_eq_true (by rw [List.length_map]; exact hl)]; rfl
  refine ⟨(riseK (ps.map kOf)).map pOf, ?_, ?_⟩
  · show (if sortOk (ps.map cellD) = true then Res.ok (PyData.list (sortL (ps.map cellD))) else .stuck) = _
    rw [if_pos ok, cells_enc, sortL_enc]
    congr 2
    rw [List.map_map]
    apply List.map_congr_left
    intro k hk
    obtain ⟨p, _, rfl⟩ := List.mem_map.mp ((riseK_perm _).mem_iff.mp hk)
    rfl
  · have := (riseK_perm (ps.map kOf)).map pOf
    rw [List.map_map] at this
    have e : ps.map (pOf ∘ kOf) = ps := by
      conv => rhs; rw [← List.map_id ps]
      rfl
    rwa [e] at this
def pieceB : SF := (sSeq (sAsg (gT 2 (gsCons (gN 0) (gsCons (gN 5) gsNil))) (eCall divmodD (aCons (eVar 0) (aCons (eC (.int 25)) aNil))))
  (sSeq (sSet 6 (eTup (aCons (e2 subD (e2 fdivD (eVar 5) (eC (.int 5))) (eC (.int 2))) (aCons (e2 subD (e2 modD (eVar 5) (eC (.int 5))) (eC (.int 2))) aNil))))
  (sSeq (sIf (tB (e2 eqD (eVar 1) (eC (.int 1)))) (sSeq (sAsg (gT 2 (gsCons (gN 0) (gsCons (gN 7) gsNil))) (eCall divmodD (aCons (eVar 0) (aCons (e2 addD (e2 mulD (eC (.int 2)) (e2 powD (eC (.int 10)) (eC (.int 6)))) (eC (.int 1))) aNil))))
  (sSeq (sAsg (gT 2 (gsCons (gN 0) (gsCons (gN 8) gsNil))) (eCall divmodD (aCons (eVar 0) (aCons (e2 addD (e2 mulD (eC (.int 2)) (e2 powD (eC (.int 10)) (eC (.int 6)))) (eC (.int 1))) aNil))))
  (sSet 6 (eTup (aCons (e2 subD (eVar 7) (e2 powD (eC (.int 10)) (eC (.int 6)))) (aCons (e2 subD (eVar 8) (e2 powD (eC (.int 10)) (eC (.int 6)))) aNil)))))) sNil)
  (sPut 3 (eVar 6) (eC (.bool true))))))
def pieceT : SF := (sSeq (sFor (fun σ => ((aCons (e2 addD (eC (.int 1)) (eVar 2)) aNil) σ).bind rng1) (gN 4) pieceB)
  (sFreeze 3 (sRet (eTup (aCons (eCall tupleD (aCons (eCall sortAnyD (aCons (eVar 3) aNil)) aNil)) (aCons (eVar 0) aNil))))))
def lawPiece : List D → Res D := fnD 9 1 (sSeq (sAsg (gT 2 (gsCons (gN 0) (gsCons (gN 1) gsNil))) (eCall divmodD (aCons (eVar 0) (aCons (eC (.int 8)) aNil))))
  (sSeq (sAsg (gT 2 (gsCons (gN 0) (gsCons (gN 2) gsNil))) (eCall divmodD (aCons (eVar 0) (aCons (eC (.int 5)) aNil))))
  (sSeq (sIf (tB (e2 eqD (eVar 1) (eC (.int 0)))) (sAsg (gT 2 (gsCons (gN 0) (gsCons (gN 2) gsNil))) (eCall divmodD (aCons (eVar 0) (aCons (eC (.int 12)) aNil)))) sNil)
  (sSeq (sNew 3 (eC (.dict []))) pieceT))))
def inM (p : Int × Int) : Prop := (-1000000 ≤ p.1 ∧ p.1 ≤ 1000000) ∧ (-1000000 ≤ p.2 ∧ p.2 ≤ 1000000)
theorem piece_turn (n w : Int) (x2 x4 x5 x6 x7 x8 : Option Slot) (qs : List (Int × Int)) (hn : 0 ≤ n) (hl : qs.length < 1000) :
    SN (pieceB [some (.sh (.int n)), some (.sh (.int w)), x2, some (.ow (.dict (dctT qs))), x4, x5, x6, x7, x8]) fun σ' => ∃ (n' : Int) (p : Int × Int) (y5 y6 y7 y8 : Option Slot), 0 ≤ n' ∧ inM p ∧
      σ' = [some (.sh (.int n')), some (.sh (.int w)), x2, some (.ow (.dict (dctT (addC qs p)))), x4, y5, y6, y7, y8] := by
  have hls : qs.length < sizeLine := Nat.lt_trans hl (by decide)
  by_cases hw : w = 1
  · subst hw
    have h1 : 0 ≤ n / 25 := Int.ediv_nonneg hn (by decide)
    have h2 : 0 ≤ n / 25 / (2 * 10 ^ 6 + 1) := Int.ediv_nonneg h1 (by decide)
    have h3 : 0 ≤ n / 25 / (2 * 10 ^ 6 + 1) / (2 * 10 ^ 6 + 1) := Int.ediv_nonneg h2 (by decide)
    have r1 := Int.emod_nonneg (n / 25) (show (2 * 10 ^ 6 + 1 : Int) ≠ 0 by decide)
    have r2 := Int.emod_lt_of_pos (n / 25) (show (0 : Int) < 2 * 10 ^ 6 + 1 by decide)
    have r3 := Int.emod_nonneg (n / 25 / (2 * 10 ^ 6 + 1)) (show (2 * 10 ^ 6 + 1 : Int) ≠ 0 by decide)
    have r4 := Int.emod_lt_of_pos (n / 25 / (2 * 10 ^ 6 + 1)) (show (0 : Int) < 2 * 10 ^ 6 + 1 by decide)
    unfold pieceB
    walk_at "ev"
    simp only [sPut, ownD, List.getElem?_cons_zero, List.getElem?_cons_succ]
    walk_at "ev"
    refine SN_put hls ?_
    exact ⟨_, (n / 25 % (2 * 10 ^ 6 + 1) - 10 ^ 6, n / 25 / (2 * 10 ^ 6 + 1) % (2 * 10 ^ 6 + 1) - 10 ^ 6), _, _, _, _, h3, ⟨⟨by show _ ≤ _ - _; omega, by show _ - _ ≤ _; omega⟩, ⟨by show _ ≤ _ - _; omega, by show _ - _ ≤ _; omega⟩⟩, rfl⟩
  · have h1 : 0 ≤ n / 25 := Int.ediv_nonneg hn (by decide)
    have hb : (w == 1) = false := by simpa using hw
    unfold pieceB
    walk_at "ev"
    rw [hb]
    simp only [sPut, ownD, List.getElem?_cons_zero, List.getElem?_cons_succ]
    walk_at "ev"
    refine SN_put hls ?_
    exact ⟨n / 25, (n % 25 / 5 - 2, n % 25 % 5 - 2), _, _, x7, x8, h1, ⟨⟨by show _ ≤ _ - _; omega, by show _ - _ ≤ _; omega⟩, ⟨by show _ ≤ _ - _; omega, by show _ - _ ≤ _; omega⟩⟩, rfl⟩
def tupC (ps : List (Int × Int)) : D := .tuple (ps.map cellD)
theorem piece_ok (n : Int) (hn : 0 ≤ n) : ∃ (ps : List (Int × Int)) (n' : Int), 0 ≤ n' ∧ ps ≠ [] ∧ ps.length ≤ 12 ∧ ps.Pairwise ltP ∧ (∀ p ∈ ps, inM p) ∧ lawPiece [.int n] = .ok (.tuple [tupC ps, .int n']) := by
  -- the loop
  have loop : ∀ (n w m : Int), 0 ≤ n → 0 ≤ m → m < 12 → ST (pieceT [some (.sh (.int n)), some (.sh (.int w)), some (.sh (.int m)), some (.ow (.dict [])), none, none, none, none, none]) fun d =>
      ∃ (ps : List (Int × Int)) (n' : Int), 0 ≤ n' ∧ ps ≠ [] ∧ ps.length ≤ 12 ∧ ps.Pairwise ltP ∧ (∀ p ∈ ps, inM p) ∧ d = .tuple [tupC ps, .int n'] := by
    intro n w m hn h0 h1
    obtain ⟨σ', e, n', qs, x4, x5, x6, x7, x8, hn', hne, hl, hnd, hin, rfl⟩ := forS_pre (p := gN 4) (body := pieceB) (g := fun k : Nat => PyData.int (k : Nat))
      (Inv := fun pre σ => ∃ (n' : Int) (qs : List (Int × Int)) (x4 x5 x6 x7 x8 : Option Slot), 0 ≤ n' ∧ (pre ≠ [] → qs ≠ []) ∧ qs.length ≤ pre.length ∧ qs.Nodup ∧ (∀ p ∈ qs, inM p) ∧
        σ = [some (.sh (.int n')), some (.sh (.int w)), some (.sh (.int m)), some (.ow (.dict (dctT qs))), x4, x5, x6, x7, x8]) (List.range (1 + m).toNat)
      [some (.sh (.int n)), some (.sh (.int w)), some (.sh (.int m)), some (.ow (.dict [])), none, none, none, none, none]
      ⟨n, [], none, none, none, none, none, hn, fun z => absurd rfl z, Nat.le_refl _, List.nodup_nil, (fun _ z => nomatch z), rfl⟩ (by
      rintro pre k post σ he ⟨n', qs, x4, x5, x6, x7, x8, hn', hne, hl, hnd, hin, rfl⟩
      have hl2 : pre.length < 12 := by
        have := congrArg List.length he
        rw [List.length_range, List.length_append, List.length_cons] at this
        omega
      obtain ⟨_, g3, n2, p, y5, y6, y7, y8, g1, g2, rfl⟩ := piece_turn n' w (some (.sh (.int m))) (some (.sh (.int (k : Nat)))) x5 x6 x7 x8 qs hn' (by omega)
      refine ⟨_, _, rfl, .inl g3, n2, addC qs p, _, y5, y6, y7, y8, g1, fun _ => addC_ne _ _, ?_, nd_addC hnd, fun q hq => ?_, rfl⟩
      · rw [List.length_append, List.length_singleton]
        exact Nat.le_trans (len_addC _ _) (by omega)
      · rcases mem_addC.mp hq with z | z
        · exact hin q z
        · rw [z]; exact g2)
    rw [List.length_range] at hl
    have hne' : qs ≠ [] := hne (by
      intro z
      have := congrArg List.length z
      rw [List.length_range, List.length_nil] at this
      omega)
    unfold pieceT
    walk_at "ev"
    rw [rng1_nat (by omega) (by omega)]
    walk_at "ev"
    rw [e]
    walk_at "ev"
    rw [sort_dct hnd]
    walk_at "ev"
    refine ST.ok ⟨srt qs, n', hn', ?_, ?_, pw_srt _, fun p hp => hin p (mem_srt.mp hp), rfl⟩
    · intro z
      cases qs with
      | nil => exact hne' rfl
      | cons q qs =>
        have : q ∈ srt (q :: qs) := mem_srt.mpr List.mem_cons_self
        rw [z] at this; cases this
    · exact Nat.le_trans (srt_len _) (by omega)
  have h8 : 0 ≤ n / 8 := Int.ediv_nonneg hn (by decide)
  have h5 : 0 ≤ n / 8 / 5 := Int.ediv_nonneg h8 (by decide)
  have h12 : 0 ≤ n / 8 / 5 / 12 := Int.ediv_nonneg h5 (by decide)
  by_cases hw : n % 8 = 0
  · obtain ⟨_, _, a6, ps, n', a1, a2, a3, a4, a5, rfl⟩ := loop (n / 8 / 5 / 12) (n % 8) (n / 8 / 5 % 12) h12 (Int.emod_nonneg _ (by decide)) (Int.emod_lt_of_pos _ (by decide))
    refine ⟨ps, n', a1, a2, a3, a4, a5, ?_⟩
    have hb : (n % 8 == 0) = true := by simpa using hw
    unfold lawPiece
    walk_at "ev"
    rw [hb]
    walk_at "ev"
    rw [a6]
  · obtain ⟨_, _, a6, ps, n', a1, a2, a3, a4, a5, rfl⟩ := loop (n / 8 / 5) (n % 8) (n / 8 % 5) h5 (Int.emod_nonneg _ (by decide)) (by have := Int.emod_lt_of_pos (n / 8) (show (0 : Int) < 5 by decide); omega)
    refine ⟨ps, n', a1, a2, a3, a4, a5, ?_⟩
    have hb : (n % 8 == 0) = false := by simpa using hw
    unfold lawPiece
    walk_at "ev"
    rw [hb]
    walk_at "ev"
    rw [a6]
end E3

namespace E3
open PySem PySem.Spec PyProof.Rows L2
theorem isi_bool_none  : isiD "bool" .none = .ok (.bool false) := rfl
theorem isi_bool_bool (b : Bool) : isiD "bool" (.bool b) = .ok (.bool true) := rfl
theorem isi_bool_int (i : Int) : isiD "bool" (.int i) = .ok (.bool false) := rfl
theorem isi_bool_str (x : Str) : isiD "bool" (.str x) = .ok (.bool false) := rfl
theorem isi_bool_list (xs : List D) : isiD "bool" (.list xs) = .ok (.bool false) := rfl
theorem isi_bool_tuple (xs : List D) : isiD "bool" (.tuple xs) = .ok (.bool false) := rfl
theorem isi_int_none  : isiD "int" .none = .ok (.bool false) := rfl
theorem isi_int_bool (b : Bool) : isiD "int" (.bool b) = .ok (.bool true) := rfl
theorem isi_int_int (i : Int) : isiD "int" (.int i) = .ok (.bool true) := rfl
theorem isi_int_str (x : Str) : isiD "int" (.str x) = .ok (.bool false) := rfl
theorem isi_int_list (xs : List D) : isiD "int" (.list xs) = .ok (.bool false) := rfl
theorem isi_int_tuple (xs : List D) : isiD "int" (.tuple xs) = .ok (.bool false) := rfl
theorem isi_str_none  : isiD "str" .none = .ok (.bool false) := rfl
theorem isi_str_bool (b : Bool) : isiD "str" (.bool b) = .ok (.bool false) := rfl
theorem isi_str_int (i : Int) : isiD "str" (.int i) = .ok (.bool false) := rfl
theorem isi_str_str (x : Str) : isiD "str" (.str x) = .ok (.bool true) := rfl
theorem isi_str_list (xs : List D) : isiD "str" (.list xs) = .ok (.bool false) := rfl
theorem isi_str_tuple (xs : List D) : isiD "str" (.tuple xs) = .ok (.bool false) := rfl
theorem isi_list_none  : isiD "list" .none = .ok (.bool false) := rfl
theorem isi_list_bool (b : Bool) : isiD "list" (.bool b) = .ok (.bool false) := rfl
theorem isi_list_int (i : Int) : isiD "list" (.int i) = .ok (.bool false) := rfl
theorem isi_list_str (x : Str) : isiD "list" (.str x) = .ok (.bool false) := rfl
theorem isi_list_list (xs : List D) : isiD "list" (.list xs) = .ok (.bool true) := rfl
theorem isi_list_tuple (xs : List D) : isiD "list" (.tuple xs) = .ok (.bool false) := rfl
theorem isi_tuple_none  : isiD "tuple" .none = .ok (.bool false) := rfl
theorem isi_tuple_bool (b : Bool) : isiD "tuple" (.bool b) = .ok (.bool false) := rfl
theorem isi_tuple_int (i : Int) : isiD "tuple" (.int i) = .ok (.bool false) := rfl
theorem isi_tuple_str (x : Str) : isiD "tuple" (.str x) = .ok (.bool false) := rfl
theorem isi_tuple_list (xs : List D) : isiD "tuple" (.list xs) = .ok (.bool false) := rfl
theorem isi_tuple_tuple (xs : List D) : isiD "tuple" (.tuple xs) = .ok (.bool true) := rfl
theorem isN_none  : isND .none .none = .ok (.bool true) := rfl
theorem ntN_none  : notND .none .none = .ok (.bool false) := rfl
theorem isN_bool (b : Bool) : isND (.bool b) .none = .ok (.bool false) := rfl
theorem ntN_bool (b : Bool) : notND (.bool b) .none = .ok (.bool true) := rfl
theorem isN_int (i : Int) : isND (.int i) .none = .ok (.bool false) := rfl
theorem ntN_int (i : Int) : notND (.int i) .none = .ok (.bool true) := rfl
theorem isN_str (x : Str) : isND (.str x) .none = .ok (.bool false) := rfl
theorem ntN_str (x : Str) : notND (.str x) .none = .ok (.bool true) := rfl
theorem isN_list (xs : List D) : isND (.list xs) .none = .ok (.bool false) := rfl
theorem ntN_list (xs : List D) : notND (.list xs) .none = .ok (.bool true) := rfl
theorem isN_tuple (xs : List D) : isND (.tuple xs) .none = .ok (.bool false) := rfl
theorem ntN_tuple (xs : List D) : notND (.tuple xs) .none = .ok (.bool true) := rfl
theorem len_list (xs : List D) : lenD [.list xs] = .ok (.int xs.length) := rfl
theorem len_tup (xs : List D) : lenD [.tuple xs] = .ok (.int xs.length) := rfl
theorem seq_list (xs : List D) : seqOf (.list xs) = .ok xs := rfl
theorem seq_tup (xs : List D) : seqOf (.tuple xs) = .ok xs := rfl
theorem tup_list (xs : List D) : tupleD [.list xs] = .ok (.tuple xs) := rfl
theorem tup_tup (xs : List D) : tupleD [.tuple xs] = .ok (.tuple xs) := rfl
theorem lst_list (xs : List D) : listD [.list xs] = .ok (.list xs) := rfl
theorem lst_tup (xs : List D) : listD [.tuple xs] = .ok (.list xs) := rfl
local macro_rules | `(tactic| walk_at "ev") => `(tactic| try simp (disch := first | decide | decide +kernel | omega) only [fnD, startF, endF, sSeq, sAsg, sSet, sSetV, sAsgV, sIf, sRet, sNew, sNewV, sMut, sMutV, sFor, sForR, sFreeze, sNil, sExpr, optK, thenR_ok, thenR_exc, thenR_stuck,
  view, mask, E3.eVar_zero, E3.eVar_succ, eC, e1, e2, eCall, eTup, eLst, eSl, oNone, oSome, eAnd, eOr, eIf, E3.tAnd, E3.tOr, E3.tNot, E3.tB, asB, notD, aNil, aCons, Res.bind_ok, Res.bind_exc, Res.bind_stuck,
  gT, gsCons, gsNil, gN, tupD, lstD, Slot.dat, Slot.shd, List.length_cons, List.length_nil, List.map_cons, List.map_nil, List.replicate, List.append_nil, List.cons_append, List.nil_append, Option.map_some, Option.map_none, Option.bind_some, Option.bind_none,
  List.getElem?_cons_zero, List.getElem?_cons_succ, List.set_cons_zero, List.set_cons_succ, Nat.reduceAdd, Nat.reduceSub, Nat.reduceEqDiff, if_true, if_false, ite_true, ite_false, reduceIte, decide_true, decide_false, reduceCtorEq, Bool.not_true, Bool.not_false, Bool.false_eq_true, Bool.true_eq_false, Bool.or_true, Bool.true_or, Bool.false_or, Bool.or_false, Bool.and_true, Bool.and_false, Bool.true_and, Bool.false_and, addI, subI, ltI, leI, gtI, geI, eqI, neI, negI, ix_cell0, ix_cell1, E3.le0, E3.le1, E3.le2, E3.le3, E3.le4, E3.le5, E3.le6, beq_self_eq_true, divmodI, modI, fdivI, powL, mulLL, isi_bool_none, isi_bool_bool, isi_bool_int, isi_bool_str, isi_bool_list, isi_bool_tuple, isi_int_none, isi_int_bool, isi_int_int, isi_int_str, isi_int_list, isi_int_tuple, isi_str_none, isi_str_bool, isi_str_int, isi_str_str, isi_str_list, isi_str_tuple, isi_list_none, isi_list_bool, isi_list_int, isi_list_str, isi_list_list, isi_list_tuple, isi_tuple_none, isi_tuple_bool, isi_tuple_int, isi_tuple_str, isi_tuple_list, isi_tuple_tuple, isN_none, ntN_none, isN_bool, ntN_bool, isN_int, ntN_int, isN_str, ntN_str, isN_list, ntN_list, isN_tuple, ntN_tuple, len_list, len_tup, seq_list, seq_tup, tup_list, tup_tup, lst_list, lst_tup])
def lawSame : Nat → List D → Res D
  | 0 => fnD 4 2 sStuck
  | n + 1 => fnD 4 2 (sSeq (sIf (tB (e2 isND (eVar 1) (eC .none))) (sRet (e2 isND (eVar 0) (eC .none))) sNil)
  (sSeq (sIf (E3.tB (e1 (isiD "bool") (eVar 1))) (sRet (eAnd (e1 (isiD "bool") (eVar 0)) (e2 eqD (eVar 0) (eVar 1)))) sNil)
  (sSeq (sIf (E3.tB (e1 (isiD "int") (eVar 1))) (sRet (eAnd (e1 (isiD "int") (eVar 0)) (eAnd (e1 notD (e1 (isiD "bool") (eVar 0))) (e2 eqD (eVar 0) (eVar 1))))) sNil)
  (sSeq (sIf (E3.tB (e1 (isiD "str") (eVar 1))) (sRet (eAnd (e1 (isiD "str") (eVar 0)) (e2 eqD (eVar 0) (eVar 1)))) sNil)
  (sSeq (sIf (E3.tOr (E3.tAnd (E3.tB (e1 (isiD "tuple") (eVar 1))) (E3.tNot (E3.tB (e1 (isiD "tuple") (eVar 0))))) (E3.tAnd (E3.tB (e1 (isiD "list") (eVar 1))) (E3.tNot (E3.tB (e1 (isiD "list") (eVar 0)))))) (sRet (eC (.bool false))) sNil)
  (sRet (eAnd (e2 eqD (eCall lenD (aCons (eVar 0) aNil)) (eCall lenD (aCons (eVar 1) aNil))) (eCall allD (aCons (eLc (fun σ => ((aCons (eVar 0) (aCons (eVar 1) aNil)) σ).bind zipR) (gT 2 (gsCons (gN 3) (gsCons (gN 2) gsNil))) [3, 2] tYesD (eCall (lawSame n) (aCons (eVar 3) (aCons (eVar 2) aNil)))) aNil)))))))))
def good : Nat → D → Prop
  | 0, d => match d with
    | .none => True
    | .bool _ => True
    | .int _ => True
    | .str x => SeqAt.shaped (.str x) = true
    | _ => False
  | n + 1, d => match d with
    | .none => True
    | .bool _ => True
    | .int _ => True
    | .str x => SeqAt.shaped (.str x) = true
    | .tuple xs => xs.length ≤ sizeLine ∧ ∀ x ∈ xs, good n x
    | .list xs => xs.length ≤ sizeLine ∧ ∀ x ∈ xs, good n x
    | _ => False
theorem zipR_tt (xs ys : List D) : zipR [.tuple xs, .tuple ys] = .ok (zipD xs ys) := rfl
theorem zipR_ll (xs ys : List D) : zipR [.list xs, .list ys] = .ok (zipD xs ys) := rfl
theorem zip_self : ∀ xs : List D, zipD xs xs = xs.map fun d => .tuple [d, d]
  | [] => rfl
  | x :: xs => by
    show _ :: zipD xs xs = _
    rw [zip_self xs]; rfl
theorem allT (n : Nat) : allD [.list ((List.replicate n ()).map fun _ => PyData.bool true)] = .ok (.bool true) := by
  show overB _ _ = _
  unfold overB
  simp only [all_true]
  simp
theorem all_tr {α : Type} (xs : List α) : allD [.list (xs.map fun _ => PyData.bool true)] = .ok (.bool true) := by
  show overB _ _ = _
  unfold overB
  simp only [all_true]
  simp
theorem same_lc (n : Nat) (xs : List D) (σ : DS) (hs : σ.length = 4) (h0 : ∀ x ∈ xs, lawSame n [x, x] = .ok (.bool true)) :
    lcD (gT 2 (gsCons (gN 3) (gsCons (gN 2) gsNil))) tYesD (eCall (lawSame n) (aCons (eVar 3) (aCons (eVar 2) aNil))) (wipeD σ [3, 2]) (xs.map fun d => .tuple [d, d]) = .ok (xs.map fun _ => PyData.bool true) := by
  match σ, hs with
  | [a, b, c, d], _ =>
    refine lc_of (g := fun d => PyData.tuple [d, d]) (q := fun _ => PyData.bool true) xs fun x hx => ⟨_, rfl, rfl, ?_⟩
    show (eCall (lawSame n) (aCons (eVar 3) (aCons (eVar 2) aNil))) [_, _, some x, some x] = _
    exact h0 x hx
theorem same_refl : ∀ (n : Nat) (d : D), good n d → lawSame (n + 1) [d, d] = .ok (.bool true) := by
  have base : ∀ (n : Nat) (d : D), (d = .none ∨ (∃ b, d = .bool b) ∨ (∃ i, d = .int i) ∨ ∃ x, d = .str x ∧ SeqAt.shaped (.str x) = true) → lawSame (n + 1) [d, d] = .ok (.bool true) := by
    intro n d h
    rcases h with rfl | ⟨b, rfl⟩ | ⟨i, rfl⟩ | ⟨x, rfl, h⟩
    · unfold lawSame; walk_at "ev"
    · have e := eqD_refl (d := .bool b) (by cases b <;> rfl)
      unfold lawSame; walk_at "ev"; rw [e]; walk_at "ev"
    · unfold lawSame; walk_at "ev"
    · have e := eqD_refl (d := .str x) h
      unfold lawSame; walk_at "ev"; rw [e]; walk_at "ev"
  intro n
  induction n with
  | zero =>
    intro d h
    cases d with
    | none => exact base _ _ (.inl rfl)
    | bool b => exact base _ _ (.inr (.inl ⟨b, rfl⟩))
    | int i => exact base _ _ (.inr (.inr (.inl ⟨i, rfl⟩)))
    | str x => exact base _ _ (.inr (.inr (.inr ⟨x, rfl, h⟩)))
    | _ => exact h.elim
  | succ n ih =>
    intro d h
    cases d with
    | none => exact base _ _ (.inl rfl)
    | bool b => exact base _ _ (.inr (.inl ⟨b, rfl⟩))
    | int i => exact base _ _ (.inr (.inr (.inl ⟨i, rfl⟩)))
    | str x => exact base _ _ (.inr (.inr (.inr ⟨x, rfl, h⟩)))
    | tuple xs =>
      have e := same_lc (n + 1) xs [some (.tuple xs), some (.tuple xs), none, none] rfl fun x hx => ih x (h.2 x hx)
      unfold lawSame
      walk_at "ev"
      simp only [zipR_tt, zipR_ll, zip_self, eLc, Res.bind_ok, List.length_map, if_pos h.1, e]
      walk_at "ev"
      simp only [zipR_tt, zipR_ll, zip_self, Res.bind_ok, List.length_map, if_pos h.1, e]
      walk_at "ev"
      rw [all_tr]
      walk_at "ev"
    | list xs =>
      have e := same_lc (n + 1) xs [some (.list xs), some (.list xs), none, none] rfl fun x hx => ih x (h.2 x hx)
      unfold lawSame
      walk_at "ev"
      simp only [zipR_tt, zipR_ll, zip_self, eLc, Res.bind_ok, List.length_map, if_pos h.1, e]
      walk_at "ev"
      simp only [zipR_tt, zipR_ll, zip_self, Res.bind_ok, List.length_map, if_pos h.1, e]
      walk_at "ev"
      rw [all_tr]
      walk_at "ev"
    | _ => exact h.elim
end E3

namespace E3
open PySem PySem.Spec PyProof.Rows L2
local macro_rules | `(tactic| walk_at "ev") => `(tactic| try simp (disch := first | decide | decide +kernel | omega) only [fnD, startF, endF, sSeq, sAsg, sSet, sSetV, sAsgV, sIf, sRet, sNew, sNewV, sMut, sMutV, sFor, sForR, sFreeze, sNil, sExpr, optK, thenR_ok, thenR_exc, thenR_stuck,
  view, mask, E3.eVar_zero, E3.eVar_succ, eC, e1, e2, eCall, eTup, eLst, eSl, oNone, oSome, eAnd, eOr, eIf, E3.tAnd, E3.tOr, E3.tNot, E3.tB, asB, notD, aNil, aCons, Res.bind_ok, Res.bind_exc, Res.bind_stuck,
  gT, gsCons, gsNil, gN, tupD, lstD, Slot.dat, Slot.shd, List.length_cons, List.length_nil, List.map_cons, List.map_nil, List.replicate, List.append_nil, List.cons_append, List.nil_append, Option.map_some, Option.map_none, Option.bind_some, Option.bind_none,
  List.getElem?_cons_zero, List.getElem?_cons_succ, List.set_cons_zero, List.set_cons_succ, Nat.reduceAdd, Nat.reduceSub, Nat.reduceEqDiff, if_true, if_false, ite_true, ite_false, reduceIte, decide_true, decide_false, reduceCtorEq, Bool.not_true, Bool.not_false, Bool.false_eq_true, Bool.true_eq_false, Bool.or_true, Bool.true_or, Bool.false_or, Bool.or_false, Bool.and_true, Bool.and_false, Bool.true_and, Bool.false_and, addI, subI, ltI, leI, gtI, geI, eqI, neI, E3.negI, ix_cell0, ix_cell1, E3.le0, E3.le1, E3.le2, E3.le3, E3.le4, E3.le5, E3.le6, beq_self_eq_true, E3.divmodI, E3.modI, E3.fdivI, E3.powL, E3.mulLL, E3.isi_bool_none, E3.isi_bool_bool, E3.isi_bool_int, E3.isi_bool_str, E3.isi_bool_list, E3.isi_bool_tuple, E3.isi_int_none, E3.isi_int_bool, E3.isi_int_int, E3.isi_int_str, E3.isi_int_list, E3.isi_int_tuple, E3.isi_str_none, E3.isi_str_bool, E3.isi_str_int, E3.isi_str_str, E3.isi_str_list, E3.isi_str_tuple, E3.isi_list_none, E3.isi_list_bool, E3.isi_list_int, E3.isi_list_str, E3.isi_list_list, E3.isi_list_tuple, E3.isi_tuple_none, E3.isi_tuple_bool, E3.isi_tuple_int, E3.isi_tuple_str, E3.isi_tuple_list, E3.isi_tuple_tuple, E3.isN_none, E3.ntN_none, E3.isN_bool, E3.ntN_bool, E3.isN_int, E3.ntN_int, E3.isN_str, E3.ntN_str, E3.isN_list, E3.ntN_list, E3.isN_tuple, E3.ntN_tuple, E3.len_list, E3.len_tup, E3.seq_list, E3.seq_tup, E3.tup_list, E3.tup_tup, E3.lst_list, E3.lst_tup])
theorem SN.mono {r : SR} {P Q : SS → Prop} (h : SN r P) (k : ∀ σ, P σ → Q σ) : SN r Q := let ⟨σ, e, p⟩ := h; ⟨σ, e, k σ p⟩
theorem SN.seq {g h : SF} {σ : SS} {P Q : SS → Prop} (a : SN (g σ) P) (b : ∀ σ', P σ' → SN (h σ') Q) : SN (sSeq g h σ) Q := by
  obtain ⟨σ1, e, p⟩ := a
  unfold sSeq
  rw [e]
  exact b σ1 p
theorem SN.thenT {g h : SF} {σ : SS} {P : SS → Prop} {Q : D → Prop} (a : SN (g σ) P) (b : ∀ σ', P σ' → ST (h σ') Q) : ST (sSeq g h σ) Q := by
  obtain ⟨σ1, e, p⟩ := a
  unfold sSeq
  rw [e]
  exact b σ1 p
theorem loop_ints {i : Nat} {body : SF} {Inv : SS → Prop} : ∀ (ms : List Int) (σ : SS), Inv σ → (∀ (m : Int) (σ : SS), Inv σ → SN (body (σ.set i (some (.sh (.int m))))) Inv) → ∃ σ', forS (gN i) body (ms.map .int) σ = .ok .nx σ' ∧ Inv σ'
  | [], σ, h, _ => ⟨σ, rfl, h⟩
  | m :: ms, σ, h, k => by
    obtain ⟨σ1, e1, h1⟩ := k m σ h
    obtain ⟨σ2, e2, h2⟩ := loop_ints ms σ1 h1 k
    refine ⟨σ2, ?_, h2⟩
    rw [List.map_cons]
    unfold forS
    show (match body (σ.set i (some (.sh (.int m)))) with
      | .ok .nx σ2 => forS (gN i) body (ms.map .int) σ2
      | .ok .ct σ2 => forS (gN i) body (ms.map .int) σ2
      | .ok .bk σ2 => .ok .nx σ2
      | .ok (.rt v) σ2 => .ok (.rt v) σ2
      | .exc x σ2 => .exc x σ2
      | .stuck => .stuck) = _
    rw [e1]
    exact e2
theorem loop_keep {p : GF} {body : SF} {Inv : SS → Prop} : ∀ (ds : List D) (σ : SS), Inv σ → (∀ d ∈ ds, ∀ σ, Inv σ → ∃ σ1, p d σ = some σ1 ∧ SN (body σ1) Inv) → SN (forS p body ds σ) Inv
  | [], σ, h, _ => ⟨σ, rfl, h⟩
  | d :: ds, σ, h, k => by
    obtain ⟨σ1, e1, σ2, e2, h2⟩ := k d List.mem_cons_self σ h
    obtain ⟨σ3, e3, h3⟩ := loop_keep ds σ2 h2 fun d hd => k d (List.mem_cons_of_mem _ hd)
    refine ⟨σ3, ?_, h3⟩
    unfold forS
    rw [e1]
    simp only [e2]
    exact e3
theorem law_skel {N i : Nat} {it : DS → Res (List D)} {body : SF} {Inv : SS → Prop} {s : D} (hit : ∃ ms : List Int, it (mask (startF N [s])) = .ok (ms.map .int)) (h0 : Inv (startF N [s]))
    (hb : ∀ (m : Int) (σ : SS), Inv σ → SN (body (σ.set i (some (.sh (.int m))))) Inv) : fnD N 1 (sSeq (sFor it (gN i) body) (sRet (eC (.bool true)))) [s] = .ok (.bool true) := by
  obtain ⟨ms, e⟩ := hit
  obtain ⟨σ', e2, _⟩ := loop_ints ms _ h0 hb
  unfold fnD
  rw [if_pos (show [s].length = 1 from rfl)]
  unfold sSeq sFor
  rw [e, thenR_ok, e2]
  rfl
def lawCell : List D → Res D := fnD 2 2 (sSeq (sIf (tB (e2 ltD (eVar 1) (eCall lenD (aCons (eVar 0) aNil)))) (sRet (e2 ixD (eVar 0) (eVar 1))) sNil)
  (sRet (eC (.int 0))))
theorem ix_ints {ns : List Int} {k : Int} (h0 : 0 ≤ k) (h : k < (ns.length : Int)) : ∃ c : Int, ixD (.list (ns.map .int)) (.int k) = .ok (.int c) := by
  have hl : k.toNat < ns.length := by omega
  refine ⟨ns[k.toNat], ?_⟩
  show optR (L2.atI (ns.map PyData.int) k) = _
  have e : L2.atI (ns.map PyData.int) k = some (.int ns[k.toNat]) := by
    unfold L2.atI ixN
    rw [List.length_map]
    rw [if_pos h0, if_pos h]
    simp [hl]
  rw [e]; rfl
theorem cell_lt (ns : List Int) : True := trivial
theorem law_cell_ok (ns : List Int) (k : Int) (h0 : 0 ≤ k) : ∃ c : Int, lawCell [.list (ns.map .int), .int k] = .ok (.int c) := by
  by_cases h : k < (ns.length : Int)
  · obtain ⟨c, e⟩ := ix_ints h0 h
    refine ⟨c, ?_⟩
    unfold lawCell
    walk_at "ev"
    rw [List.length_map, decide_eq_true h]
    walk_at "ev"
    rw [e]
    walk_at "ev"
  · refine ⟨0, ?_⟩
    unfold lawCell
    walk_at "ev"
    rw [List.length_map, decide_eq_false h]
    walk_at "ev"
theorem cut_of (ns : List Int) (lo hi : Option Int) : ∃ ms : List Int, cutD (ns.map PyData.int) lo hi = ms.map PyData.int ∧ ms.length ≤ ns.length := cut_ints ns lo hi
theorem it_of (c : Int) (ns : List Int) (lo hi : Option Int) (h : ns.length ≤ 63) : ∃ ms : List Int, addD (.list [.int c]) (.list (cutD (ns.map PyData.int) lo hi)) = .ok (.list (ms.map .int)) := by
  obtain ⟨ms, e, hl⟩ := cut_ints ns lo hi
  refine ⟨c :: ms, ?_⟩
  rw [e]
  show (if _ then _ else _) = _
  rw [if_pos (by rw [List.length_map]; show 1 + ms.length ≤ _; rw [sizeLine_eq]; omega)]
  rfl
theorem ix_tup0 (a : D) (l : List D) : ixD (.tuple (a :: l)) (.int 0) = .ok a := by
  show optR (L2.atI (a :: l) 0) = _
  have : L2.atI (a :: l) 0 = some a := by
    unfold L2.atI ixN
    rw [if_pos (by omega), if_pos (by rw [List.length_cons]; omega)]; rfl
  rw [this]; rfl
theorem ix_lst0 (a : D) (l : List D) : ixD (.list (a :: l)) (.int 0) = .ok a := by
  show optR (L2.atI (a :: l) 0) = _
  have : L2.atI (a :: l) 0 = some a := by
    unfold L2.atI ixN
    rw [if_pos (by omega), if_pos (by rw [List.length_cons]; omega)]; rfl
  rw [this]; rfl
theorem ix_at {l : List D} {k : Nat} {d : D} (h : l[k]? = some d) : ixD (.tuple l) (.int (k : Nat)) = .ok d ∧ ixD (.list l) (.int (k : Nat)) = .ok d := by
  have hk : k < l.length := (List.getElem?_eq_some_iff.mp h).1
  have e : L2.atI l ((k : Nat) : Int) = some d := by
    unfold L2.atI ixN
    rw [if_pos (by omega), if_pos (by omega)]
    simpa using h
  constructor
  · show optR (L2.atI l _) = _
    rw [e]; rfl
  · show optR (L2.atI l _) = _
    rw [e]; rfl
theorem shaped_lst (ps : List (Int × Int)) : SeqAt.shaped (.list (ps.map cellD)) = true := by
  have h1 := lay_cells ps
  have h2 := deep_cells ps
  unfold SeqAt.shaped
  simp only [PyData.canLay0, PyData.depth, h1]
  simp
  omega
theorem eq_lists (ps qs : List (Int × Int)) : eqD (.list (ps.map cellD)) (.list (qs.map cellD)) = .ok (.bool (decide (ps = qs))) := by
  unfold eqD
  rw [shaped_lst, shaped_lst]
  show Res.ok (PyData.bool (PyData.eqvAll (ps.map cellD) (qs.map cellD))) = _
  rw [eqv_cells]
theorem eq_tups (ps qs : List (Int × Int)) : eqD (.tuple (ps.map cellD)) (.tuple (qs.map cellD)) = .ok (.bool (decide (ps = qs))) := by
  unfold eqD
  rw [shaped_cells, shaped_cells]
  show Res.ok (PyData.bool (PyData.eqvAll (ps.map cellD) (qs.map cellD))) = _
  rw [eqv_cells]
theorem eq_cell (p q : Int × Int) : eqD (cellD p) (cellD q) = .ok (.bool (decide (p = q))) := by
  unfold eqD
  rw [shaped_cell, shaped_cell, eqv_cell]; rfl
theorem ne_cell (p q : Int × Int) : neD (cellD p) (cellD q) = .ok (.bool (!decide (p = q))) := by
  unfold neD
  rw [shaped_cell, shaped_cell, eqv_cell]; rfl
theorem notIn_cells (p : Int × Int) (ps : List (Int × Int)) : notInG (cellD p) (tupC ps) = .ok (.bool (!decide (p ∈ ps))) := by
  have hs : (SeqAt.shaped (cellD p) && SeqAt.shaped (.tuple (ps.map cellD))) = true := by rw [shaped_cell, shaped_cells]; rfl
  show (if (SeqAt.shaped (cellD p) && SeqAt.shaped (.tuple (ps.map cellD))) = true then Res.ok (PyData.bool !memD (cellD p) (ps.map cellD)) else .stuck) = _
  rw [if_pos hs, mem_cells]
def lessC (p q : Int × Int) : Int × Int := (p.1 - q.1, p.2 - q.2)
def plusC (p q : Int × Int) : Int × Int := (p.1 + q.1, p.2 + q.2)
def dLessCell : List D → Res D := fnD 2 2 (sRet (eTup (aCons (e2 subD (e2 ixD (eVar 0) (eC (.int 0))) (e2 ixD (eVar 1) (eC (.int 0)))) (aCons (e2 subD (e2 ixD (eVar 0) (eC (.int 1))) (e2 ixD (eVar 1) (eC (.int 1)))) aNil))))
theorem less_ok (p q : Int × Int) : dLessCell [cellD p, cellD q] = .ok (cellD (lessC p q)) := rfl
theorem plus_ok (p q : Int × Int) : dMovedCell [cellD p, cellD q] = .ok (cellD (plusC p q)) := rfl
theorem lc_cells {σ : DS} {k : Nat} {f : DS → Res D} {g : Int × Int → D} (ps : List (Int × Int)) (h : ∀ p ∈ ps, f ((σ.set k none).set k (some (cellD p))) = .ok (g p)) (hk : k < σ.length) :
    lcD (gN k) tYesD f (wipeD σ [k]) (ps.map cellD) = .ok (ps.map g) := by
  refine lc_of (g := cellD) (q := g) ps fun p hp => ⟨_, rfl, rfl, ?_⟩
  rw [← h p hp]
  congr 1
  show view ((upS (wipeD σ [k])).set k (some (.sh (cellD p)))) = _
  unfold view upS wipeD
  rw [List.map_set]
  show ((List.map _ (List.map _ ((wipeD σ []).set k none))).set k _) = _
  rw [List.map_map]
  have : ∀ l : DS, List.map ((fun o : Option Slot => Option.map Slot.dat o) ∘ fun o : Option D => Option.map Slot.sh o) l = l := fun l => by
    conv => rhs; rw [← List.map_id l]
    apply List.map_congr_left
    intro o _
    cases o <;> rfl
  rw [this]
  rfl
theorem lcC {it : DS → Res (List D)} {σ : DS} {k : Nat} {f : DS → Res D} {g : Int × Int → D} (ps : List (Int × Int)) (hi : it σ = .ok (ps.map cellD)) (hl : ps.length ≤ 10000) (h : ∀ p ∈ ps, f ((σ.set k none).set k (some (cellD p))) = .ok (g p)) (hk : k < σ.length) :
    eLc it (gN k) [k] tYesD f σ = .ok (.list (ps.map g)) := by
  unfold eLc
  rw [hi, Res.bind_ok, if_pos (by rw [List.length_map]; exact Nat.le_trans hl (by decide)), lc_cells ps h hk]
  rfl
theorem lcCT {it : DS → Res (List D)} {σ : DS} {k : Nat} {c : DS → Res Bool} {f : DS → Res D} {t : Int × Int → Bool} {g : Int × Int → D} (ps : List (Int × Int)) (hi : it σ = .ok (ps.map cellD)) (hl : ps.length ≤ 10000)
    (hc : ∀ p ∈ ps, c ((σ.set k none).set k (some (cellD p))) = .ok (t p)) (h : ∀ p ∈ ps, t p = true → f ((σ.set k none).set k (some (cellD p))) = .ok (g p)) (hk : k < σ.length) :
    eLc it (gN k) [k] c f σ = .ok (.list ((ps.filter t).map g)) := by
  unfold eLc
  rw [hi, Res.bind_ok, if_pos (by rw [List.length_map]; exact Nat.le_trans hl (by decide))]
  have : lcD (gN k) c f (wipeD σ [k]) (ps.map cellD) = .ok ((ps.filter t).map g) := by
    have un : ∀ p : Int × Int, view ((upS (wipeD σ [k])).set k (some (.sh (cellD p)))) = (σ.set k none).set k (some (cellD p)) := fun p => by
      unfold view upS wipeD
      rw [List.map_set]
      show ((List.map _ (List.map _ ((wipeD σ []).set k none))).set k _) = _
      rw [List.map_map]
      have : ∀ l : DS, List.map ((fun o : Option Slot => Option.map Slot.dat o) ∘ fun o : Option D => Option.map Slot.sh o) l = l := fun l => by
        conv => rhs; rw [← List.map_id l]
        apply List.map_congr_left
        intro o _
        cases o <;> rfl
      rw [this]
      rfl
    refine lc_if (g := cellD) (q := g) (t := t) ps fun p hp => ⟨_, rfl, ?_, fun ht => ?_⟩
    · rw [← hc p hp]; exact congrArg c (un p)
    · rw [← h p hp ht]; exact congrArg f (un p)
  rw [this]
  rfl
theorem lay_ints : ∀ ns : List Int, PyData.canLayAll0 (ns.map .int) = true
  | [] => rfl
  | _ :: ns => by simp only [List.map_cons, PyData.canLayAll0, PyData.canLay0, lay_ints ns]; rfl
theorem deep_ints : ∀ ns : List Int, PyData.depthAll (ns.map .int) ≤ 1
  | [] => by simp [PyData.depthAll]
  | _ :: ns => by
    have := deep_ints ns
    simp only [List.map_cons, PyData.depthAll, PyData.depth]
    omega
theorem minOk_ints (ns : List Int) (h : ns.length ≤ sizeLine) : minOk (ns.map .int) = true := by
  have a1 : ((ns.map PyData.int).all fun d => (ns.map PyData.int).all fun e => PySem.W.alike d e) = true := List.all_eq_true.mpr fun d hd => List.all_eq_true.mpr fun e he => by
    obtain ⟨p, _, rfl⟩ := List.mem_map.mp hd
    obtain ⟨q, _, rfl⟩ := List.mem_map.mp he
    rfl
  have a2 : (ns.map PyData.int).all noTup = true := List.all_eq_true.mpr fun d hd => by
    obtain ⟨p, _, rfl⟩ := List.mem_map.mp hd; rfl
  have a3 : noNone (ns.map PyData.int) = true := List.all_eq_true.mpr fun d hd => by
    obtain ⟨p, _, rfl⟩ := List.mem_map.mp hd; rfl
  unfold minOk sortOk
  rw [a1, a2, a3, lay_ints, decide_eq_true (Nat.le_trans (deep_ints ns) (by decide)), decide_eq_true (by rw [List.length_map]; exact h)]
  simp
theorem max_ints {ns : List Int} (h0 : ns ≠ []) (h : ns.length ≤ sizeLine) : ∃ m : Int, maxTD [.list (ns.map .int)] = .ok (.int m) := by
  cases ns with
  | nil => exact absurd rfl h0
  | cons n ns =>
    refine ⟨ns.foldl max n, ?_⟩
    show (if minOk ((n :: ns).map PyData.int) = true then Res.ok (PySem.W.maxD (.int n) (ns.map .int)) else .stuck) = _
    rw [if_pos (minOk_ints _ h), PySem.W.maxD_ints]
theorem min_ints {ns : List Int} (h0 : ns ≠ []) (h : ns.length ≤ sizeLine) : ∃ m : Int, minTD [.list (ns.map .int)] = .ok (.int m) := by
  cases ns with
  | nil => exact absurd rfl h0
  | cons n ns =>
    refine ⟨ns.foldl min n, ?_⟩
    show (if minOk ((n :: ns).map PyData.int) = true then Res.ok (PySem.W.minD (.int n) (ns.map .int)) else .stuck) = _
    rw [if_pos (minOk_ints _ h), PySem.W.minD_ints]
end E3

namespace E3
open PySem PySem.Spec PyProof.Rows L2
local macro_rules | `(tactic| walk_at "ev") => `(tactic| try simp (disch := first | decide | decide +kernel | omega) only [fnD, startF, endF, sSeq, sAsg, sSet, sSetV, sAsgV, sIf, sRet, sNew, sNewV, sMut, sMutV, sFor, sForR, sFreeze, sNil, sExpr, optK, thenR_ok, thenR_exc, thenR_stuck,
  view, mask, E3.eVar_zero, E3.eVar_succ, eC, e1, e2, eCall, eTup, eLst, eSl, oNone, oSome, eAnd, eOr, eIf, E3.tAnd, E3.tOr, E3.tNot, E3.tB, asB, notD, aNil, aCons, Res.bind_ok, Res.bind_exc, Res.bind_stuck,
  gT, gsCons, gsNil, gN, tupD, lstD, Slot.dat, Slot.shd, List.length_cons, List.length_nil, List.map_cons, List.map_nil, List.replicate, List.append_nil, List.cons_append, List.nil_append, Option.map_some, Option.map_none, Option.bind_some, Option.bind_none,
  List.getElem?_cons_zero, List.getElem?_cons_succ, List.set_cons_zero, List.set_cons_succ, Nat.reduceAdd, Nat.reduceSub, Nat.reduceEqDiff, if_true, if_false, ite_true, ite_false, reduceIte, decide_true, decide_false, reduceCtorEq, Bool.not_true, Bool.not_false, Bool.false_eq_true, Bool.true_eq_false, Bool.or_true, Bool.true_or, Bool.false_or, Bool.or_false, Bool.and_true, Bool.and_false, Bool.true_and, Bool.false_and, addI, subI, ltI, leI, gtI, geI, eqI, neI, E3.negI, ix_cell0, ix_cell1, E3.le0, E3.le1, E3.le2, E3.le3, E3.le4, E3.le5, E3.le6, beq_self_eq_true, E3.divmodI, E3.modI, E3.fdivI, E3.powL, E3.mulLL, E3.isi_bool_none, E3.isi_bool_bool, E3.isi_bool_int, E3.isi_bool_str, E3.isi_bool_list, E3.isi_bool_tuple, E3.isi_int_none, E3.isi_int_bool, E3.isi_int_int, E3.isi_int_str, E3.isi_int_list, E3.isi_int_tuple, E3.isi_str_none, E3.isi_str_bool, E3.isi_str_int, E3.isi_str_str, E3.isi_str_list, E3.isi_str_tuple, E3.isi_list_none, E3.isi_list_bool, E3.isi_list_int, E3.isi_list_str, E3.isi_list_list, E3.isi_list_tuple, E3.isi_tuple_none, E3.isi_tuple_bool, E3.isi_tuple_int, E3.isi_tuple_str, E3.isi_tuple_list, E3.isi_tuple_tuple, E3.isN_none, E3.ntN_none, E3.isN_bool, E3.ntN_bool, E3.isN_int, E3.ntN_int, E3.isN_str, E3.ntN_str, E3.isN_list, E3.ntN_list, E3.isN_tuple, E3.ntN_tuple, E3.len_list, E3.len_tup, E3.seq_list, E3.seq_tup, E3.tup_list, E3.tup_tup, E3.lst_list, E3.lst_tup])
theorem dlt_enc (a b : List Int) : PySem.W.dataLt (encK b) (encK a) = !decide (a ≤ b) := by
  have h := leD_enc a b
  have e : leD' (encK a) (encK b) = !PySem.W.dataLt (encK b) (encK a) := rfl
  rw [e] at h
  rw [← h, Bool.not_not]
theorem LI_tot (a b : List Int) : a ≤ b ∨ b ≤ a := by
  have := le_total_LI a b
  simpa using this
theorem LI_tr {a b c : List Int} (h : a ≤ b) (k : b ≤ c) : a ≤ c := by
  have := le_trans_LI a b c (decide_eq_true h) (decide_eq_true k)
  exact of_decide_eq_true this
theorem min_cells_ex : ∀ (xs : List (Int × Int)) (x : Int × Int), ∃ m, m ∈ x :: xs ∧ PySem.W.minD (cellD x) (xs.map cellD) = cellD m ∧ ∀ y ∈ x :: xs, kOf m ≤ kOf y
  | [], x => ⟨x, List.mem_cons_self, rfl, fun y hy => by rw [List.mem_singleton.mp hy]; exact (LI_tot (kOf x) (kOf x)).elim id id⟩
  | y :: xs, x => by
    have e : PySem.W.minD (cellD x) ((y :: xs).map cellD) = PySem.W.minD (if PySem.W.dataLt (cellD y) (cellD x) then cellD y else cellD x) (xs.map cellD) := rfl
    have l : PySem.W.dataLt (cellD y) (cellD x) = !decide (kOf x ≤ kOf y) := dlt_enc (kOf x) (kOf y)
    rw [e, l]
    by_cases h : kOf x ≤ kOf y
    · rw [decide_eq_true h]
      obtain ⟨m, h1, h2, h3⟩ := min_cells_ex xs x
      refine ⟨m, ?_, h2, fun z hz => ?_⟩
      · rcases List.mem_cons.mp h1 with q | q
        · rw [q]; exact List.mem_cons_self
        · exact List.mem_cons_of_mem _ (List.mem_cons_of_mem _ q)
      · rcases List.mem_cons.mp hz with q | q
        · rw [q]; exact h3 x List.mem_cons_self
        · rcases List.mem_cons.mp q with q | q
          · rw [q]; exact LI_tr (h3 x List.mem_cons_self) h
          · exact h3 z (List.mem_cons_of_mem _ q)
    · rw [decide_eq_false h]
      have h' : kOf y ≤ kOf x := (LI_tot (kOf x) (kOf y)).resolve_left h
      obtain ⟨m, h1, h2, h3⟩ := min_cells_ex xs y
      refine ⟨m, List.mem_cons_of_mem _ h1, h2, fun z hz => ?_⟩
      rcases List.mem_cons.mp hz with q | q
      · rw [q]; exact LI_tr (h3 y List.mem_cons_self) h'
      · exact h3 z q
def leastC (l : List (Int × Int)) : Int × Int := (srt l).headD (0, 0)
theorem srt_ne {l : List (Int × Int)} (h : l ≠ []) : srt l ≠ [] := by
  cases l with
  | nil => exact absurd rfl h
  | cons a l =>
    intro z
    have : a ∈ srt (a :: l) := mem_srt.mpr List.mem_cons_self
    rw [z] at this; cases this
theorem leastC_spec {l : List (Int × Int)} (h : l ≠ []) : leastC l ∈ l ∧ ∀ y ∈ l, y = leastC l ∨ ltP (leastC l) y := by
  have pw := pw_srt l
  have hm : ∀ y, y ∈ srt l ↔ y ∈ l := fun y => mem_srt
  unfold leastC
  cases e : srt l with
  | nil => exact absurd e (srt_ne h)
  | cons a r =>
    rw [e] at pw hm
    refine ⟨(hm a).mp List.mem_cons_self, fun y hy => ?_⟩
    rcases List.mem_cons.mp ((hm y).mpr hy) with q | q
    · exact .inl q
    · exact .inr ((List.pairwise_cons.mp pw).1 y q)
theorem ltP_of_le {p q : Int × Int} (h : kOf p ≤ kOf q) (n : p ≠ q) : ltP p q := lt_pair h fun e => n (kOf_eq.mp e)
theorem minOk_cells (ps : List (Int × Int)) (hl : ps.length ≤ sizeLine) : minOk (ps.map cellD) = true := by
  have ok : sortOk (ps.map cellD) = true := by
    unfold sortOk
    have a1 : ((ps.map cellD).all fun d => (ps.map cellD).all fun e => PySem.W.alike d e) = true := List.all_eq_true.mpr fun d hd => List.all_eq_true.mpr fun e he => by
      obtain ⟨p, _, rfl⟩ := List.mem_map.mp hd
      obtain ⟨q, _, rfl⟩ := List.mem_map.mp he
      exact alike_encK (kOf p) (kOf q)
    have a2 : (ps.map cellD).all isTupNE = true := List.all_eq_true.mpr fun d hd => by
      obtain ⟨p, _, rfl⟩ := List.mem_map.mp hd; rfl
    have a3 := lay_cells ps
    have a4 : PyData.depthAll (ps.map cellD) ≤ 64 := Nat.le_trans (deep_cells ps) (by decide)
    rw [a1, a2, a3, decide_eq_true a4, decide_eq_true (by rw [List.length_map]; exact hl)]; rfl
  unfold minOk
  rw [ok]
  exact List.all_eq_true.mpr fun d hd => by
    obtain ⟨p, _, rfl⟩ := List.mem_map.mp hd; rfl
theorem min_cells {l : List (Int × Int)} (h : l ≠ []) (hl : l.length ≤ sizeLine) : minTD [.list (l.map cellD)] = .ok (cellD (leastC l)) := by
  obtain ⟨s1, s2⟩ := leastC_spec h
  cases l with
  | nil => exact absurd rfl h
  | cons x xs =>
    obtain ⟨m, h1, h2, h3⟩ := min_cells_ex xs x
    have em : m = leastC (x :: xs) := by
      rcases s2 m h1 with q | q
      · exact q
      · have le := h3 _ s1
        apply Classical.byContradiction
        intro hn
        exact ltP_asym q (ltP_of_le le hn)
    show (if minOk ((x :: xs).map cellD) = true then Res.ok (PySem.W.minD (cellD x) (xs.map cellD)) else .stuck) = _
    rw [if_pos (minOk_cells _ hl), h2, em]
theorem filter_srt (l : List (Int × Int)) (t : Int × Int → Bool) : (srt l).filter t = srt (l.filter t) :=
  rise_uniq ((pw_srt l).filter t) (pw_srt _) fun p => by
    rw [List.mem_filter, mem_srt, mem_srt, List.mem_filter]
def build {α : Type} (f : α → Option D) (r : α → D) : List α → List D → D ⊕ List D
  | [], acc => .inr acc
  | x :: xs, acc => match f x with
    | none => .inl (r x)
    | some v => build f r xs (acc ++ [v])
theorem forS_build {α : Type} {p : GF} {body : SF} {g : α → D} {Inv : List D → SS → Prop} {f : α → Option D} {r : α → D} (n : Nat) : ∀ (xs : List α) (acc : List D) (σ : SS), acc.length + xs.length ≤ n → Inv acc σ →
    (∀ x acc σ, x ∈ xs → acc.length < n → Inv acc σ → ∃ σ1, p (g x) σ = some σ1 ∧ ∃ σ2, match f x with
      | none => body σ1 = .ok (.rt (r x)) σ2
      | some v => body σ1 = .ok .nx σ2 ∧ Inv (acc ++ [v]) σ2) →
    ∃ σ', match build f r xs acc with
      | .inl d => forS p body (xs.map g) σ = .ok (.rt d) σ'
      | .inr l => forS p body (xs.map g) σ = .ok .nx σ' ∧ Inv l σ'
  | [], acc, σ, _, h, _ => ⟨σ, rfl, h⟩
  | x :: xs, acc, σ, hn, h, k => by
    rw [List.length_cons] at hn
    obtain ⟨σ1, e1, σ2, e2⟩ := k x acc σ List.mem_cons_self (by omega) h
    unfold build
    rw [List.map_cons]
    cases hf : f x with
    | none =>
      rw [hf] at e2
      refine ⟨σ2, ?_⟩
      show forS p body (g x :: xs.map g) σ = _
      unfold forS
      rw [e1]
      simp only [e2]
    | some v =>
      rw [hf] at e2
      obtain ⟨e2, h2⟩ := e2
      obtain ⟨σ3, h3⟩ := forS_build n xs (acc ++ [v]) σ2 (by rw [List.length_append, List.length_singleton]; omega) h2 fun y acc' σ' hy => k y acc' σ' (List.mem_cons_of_mem _ hy)
      refine ⟨σ3, ?_⟩
      have e : forS p body (g x :: xs.map g) σ = forS p body (xs.map g) σ2 := by
        conv => lhs; unfold forS
        rw [e1]
        simp only [e2]
      simp only [e]
      exact h3
theorem build_all {α : Type} {f : α → Option D} {r : α → D} {Q : D → Prop} : ∀ (xs : List α) (acc : List D), (∀ d ∈ acc, Q d) → (∀ x ∈ xs, ∀ v, f x = some v → Q v) → match build f r xs acc with
    | .inl d => ∃ x ∈ xs, d = r x
    | .inr l => (∀ d ∈ l, Q d) ∧ l.length = acc.length + xs.length
  | [], acc, h, _ => ⟨h, by simp⟩
  | x :: xs, acc, h, k => by
    unfold build
    cases hf : f x with
    | none => exact ⟨x, List.mem_cons_self, rfl⟩
    | some v =>
      have ih := build_all (f := f) (r := r) (Q := Q) xs (acc ++ [v]) (fun d hd => by
        rcases List.mem_append.mp hd with q | q
        · exact h d q
        · rw [List.mem_singleton.mp q]; exact k x List.mem_cons_self v hf) fun y hy => k y (List.mem_cons_of_mem _ hy)
      simp only
      cases hb : build f r xs (acc ++ [v]) with
      | inl d =>
        rw [hb] at ih
        obtain ⟨y, hy, e⟩ := ih
        exact ⟨y, List.mem_cons_of_mem _ hy, e⟩
      | inr l =>
        rw [hb] at ih
        refine ⟨ih.1, ?_⟩
        rw [ih.2, List.length_append, List.length_singleton, List.length_cons]
        omega
theorem in_cellsT (p : Int × Int) (ps : List (Int × Int)) : inG (cellD p) (tupC ps) = .ok (.bool (decide (p ∈ ps))) := in_cells p ps
theorem neB (x y : Bool) : neD (.bool x) (.bool y) = .ok (.bool (!(x == y))) := by cases x <;> cases y <;> rfl
abbrev hsB (ps : List (Int × Int)) (b : Bool) (p : Int × Int) : Bool := !(decide (p ∈ ps) == b)
def dHas : List D → Res D := fnD 4 2 (sSeq (sAsg (gT 2 (gsCons (gN 2) (gsCons (gN 3) gsNil))) (eVar 0))
  (sRet (e2 neD (e2 inG (eVar 1) (eVar 2)) (eVar 3))))
theorem has_ok (ps : List (Int × Int)) (b : Bool) (p : Int × Int) : dHas [shp ps b, cellD p] = .ok (.bool (hsB ps b p)) := by
  have i := in_cells p ps
  generalize hp : cellD p = d at *
  unfold dHas
  walk_at "ev"
  rw [i]
  walk_at "ev"
  rw [neB]
  walk_at "ev"
def lawHas : List D → Res D := fnD 2 2 (sRet (e2 neD (e2 inG (eVar 1) (e2 ixD (eVar 0) (eC (.int 0)))) (e2 ixD (eVar 0) (eC (.int 1)))))
theorem lawHas_ok (ps : List (Int × Int)) (b : Bool) (p : Int × Int) : lawHas [shp ps b, cellD p] = .ok (.bool (hsB ps b p)) := by
  have i := in_cells p ps
  generalize hp : cellD p = d at *
  unfold lawHas
  walk_at "ev"
  rw [i]
  walk_at "ev"
  rw [neB]
  walk_at "ev"
end E3

namespace E3
open PySem PySem.Spec PyProof.Rows L2
local macro_rules | `(tactic| walk_at "ev") => `(tactic| try simp (disch := first | decide | decide +kernel | omega) only [fnD, startF, endF, sSeq, sAsg, sSet, sSetV, sAsgV, sIf, sRet, sNew, sNewV, sMut, sMutV, sFor, sForR, sFreeze, sNil, sExpr, optK, thenR_ok, thenR_exc, thenR_stuck,
  view, mask, E3.eVar_zero, E3.eVar_succ, eC, e1, e2, eCall, eTup, eLst, eSl, oNone, oSome, eAnd, eOr, eIf, E3.tAnd, E3.tOr, E3.tNot, E3.tB, asB, notD, aNil, aCons, Res.bind_ok, Res.bind_exc, Res.bind_stuck,
  gT, gsCons, gsNil, gN, tupD, lstD, Slot.dat, Slot.shd, List.length_cons, List.length_nil, List.map_cons, List.map_nil, List.replicate, List.append_nil, List.cons_append, List.nil_append, Option.map_some, Option.map_none, Option.bind_some, Option.bind_none,
  List.getElem?_cons_zero, List.getElem?_cons_succ, List.set_cons_zero, List.set_cons_succ, Nat.reduceAdd, Nat.reduceSub, Nat.reduceEqDiff, if_true, if_false, ite_true, ite_false, reduceIte, decide_true, decide_false, reduceCtorEq, Bool.not_true, Bool.not_false, Bool.false_eq_true, Bool.true_eq_false, Bool.or_true, Bool.true_or, Bool.false_or, Bool.or_false, Bool.and_true, Bool.and_false, Bool.true_and, Bool.false_and, addI, subI, ltI, leI, gtI, geI, eqI, neI, E3.negI, ix_cell0, ix_cell1, E3.le0, E3.le1, E3.le2, E3.le3, E3.le4, E3.le5, E3.le6, beq_self_eq_true, E3.divmodI, E3.modI, E3.fdivI, E3.powL, E3.mulLL, E3.isi_bool_none, E3.isi_bool_bool, E3.isi_bool_int, E3.isi_bool_str, E3.isi_bool_list, E3.isi_bool_tuple, E3.isi_int_none, E3.isi_int_bool, E3.isi_int_int, E3.isi_int_str, E3.isi_int_list, E3.isi_int_tuple, E3.isi_str_none, E3.isi_str_bool, E3.isi_str_int, E3.isi_str_str, E3.isi_str_list, E3.isi_str_tuple, E3.isi_list_none, E3.isi_list_bool, E3.isi_list_int, E3.isi_list_str, E3.isi_list_list, E3.isi_list_tuple, E3.isi_tuple_none, E3.isi_tuple_bool, E3.isi_tuple_int, E3.isi_tuple_str, E3.isi_tuple_list, E3.isi_tuple_tuple, E3.isN_none, E3.ntN_none, E3.isN_bool, E3.ntN_bool, E3.isN_int, E3.ntN_int, E3.isN_str, E3.ntN_str, E3.isN_list, E3.ntN_list, E3.isN_tuple, E3.ntN_tuple, E3.len_list, E3.len_tup, E3.seq_list, E3.seq_tup, E3.tup_list, E3.tup_tup, E3.lst_list, E3.lst_tup])
theorem nd_less {P : List (Int × Int)} (h : P.Nodup) (c : Int × Int) : (P.map (lessC c)).Nodup :=
  List.pairwise_map.mpr (h.imp fun {a b} ne e => ne (by
    have e1 : c.1 - a.1 = c.1 - b.1 := congrArg Prod.fst e
    have e2 : c.2 - a.2 = c.2 - b.2 := congrArg Prod.snd e
    exact Prod.ext (by omega) (by omega)))
theorem app_ok {acc : List D} {d : D} (h : acc.length < 1000) : appendM acc [d] = some (.none, acc ++ [d]) := by
  show (if acc.length < sizeLine then _ else _) = _
  rw [if_pos (Nat.lt_trans h (by decide))]
theorem good_cell (n : Nat) (p : Int × Int) : good (n + 1) (cellD p) := ⟨by show 2 ≤ _; rw [sizeLine_eq]; omega, fun x hx => by
    rcases List.mem_cons.mp hx with rfl | hx
    · cases n <;> exact trivial
    · rw [List.mem_singleton.mp hx]; cases n <;> exact trivial⟩
theorem good_up : ∀ (n : Nat) (d : D), good n d → good (n + 1) d := by
  intro n
  induction n with
  | zero => intro d h; cases d <;> first | exact h | exact h.elim
  | succ n ih =>
    intro d h
    cases d with
    | tuple xs => exact ⟨h.1, fun x hx => ih x (h.2 x hx)⟩
    | list xs => exact ⟨h.1, fun x hx => ih x (h.2 x hx)⟩
    | dict _ => exact h.elim
    | _ => exact h
theorem good_ups : ∀ (k n : Nat) (d : D), good n d → good (n + k) d
  | 0, _, _, h => h
  | k + 1, n, d, h => good_up _ _ (good_ups k n d h)
theorem good_two (n : Nat) (a b : D) (ha : good n a) (hb : good n b) : good (n + 1) (.tuple [a, b]) := ⟨by show 2 ≤ _; rw [sizeLine_eq]; omega, fun x hx => by
    rcases List.mem_cons.mp hx with rfl | hx
    · exact ha
    · rw [List.mem_singleton.mp hx]; exact hb⟩
theorem good_str (n : Nat) (s : Str) (h : SeqAt.shaped (.str s) = true) : good n (.str s) := by cases n <;> exact h
theorem srt_nil : srt [] = [] := List.eq_nil_iff_forall_not_mem.mpr fun p hp => by have := mem_srt.mp hp; cases this
theorem eq_nilL (l : List (Int × Int)) : eqD (.list (l.map cellD)) (.list []) = .ok (.bool (decide (l = []))) := eq_lists l []
theorem build_inr {α : Type} {f : α → Option D} {r : α → D} : ∀ (xs : List α) (acc l : List D), build f r xs acc = .inr l → ∀ x ∈ xs, (f x).isSome = true
  | [], _, _, _, _, h => nomatch h
  | x :: xs, acc, l, e, y, hy => by
    unfold build at e
    cases hf : f x with
    | none => rw [hf] at e; cases e
    | some v =>
      rw [hf] at e
      rcases List.mem_cons.mp hy with rfl | hy
      · rw [hf]; rfl
      · exact build_inr xs _ l e y hy
theorem build_first {α : Type} {r : α → D} {t : α → Bool} {v : D} : ∀ (xs : List α) (acc : List D) (x : α) (rest : List α), xs.filter (fun y => !t y) = x :: rest → build (fun y => if t y then some v else none) r xs acc = .inl (r x)
  | [], _, _, _, h => by cases h
  | y :: ys, acc, x, rest, h => by
    unfold build
    rw [List.filter_cons] at h
    cases ht : t y with
    | true =>
      rw [ht] at h
      simp only [if_true]
      exact build_first ys _ x rest (by simpa using h)
    | false =>
      rw [ht] at h
      simp only [Bool.not_false, if_true] at h
      injection h with h1 _
      rw [h1]; rfl
theorem plusC_comm (p q : Int × Int) : plusC p q = plusC q p := Prod.ext (Int.add_comm ..) (Int.add_comm ..)
theorem ltP_plus {p q : Int × Int} (c : Int × Int) (h : ltP p q) : ltP (plusC c p) (plusC c q) := by
  unfold ltP plusC at *
  simp only
  omega
theorem pw_plus {P : List (Int × Int)} (c : Int × Int) (h : P.Pairwise ltP) : (P.map (plusC c)).Pairwise ltP := List.pairwise_map.mpr (h.imp fun hp => ltP_plus c hp)
theorem leastC_pw {x : Int × Int} {l : List (Int × Int)} (h : (x :: l).Pairwise ltP) : leastC (x :: l) = x := by
  unfold leastC
  rw [srt_id h]; rfl
theorem bools_of (l : List Bool) : boolsOf (l.map PyData.bool) = some l := by
  induction l with
  | nil => rfl
  | cons b l ih =>
    rw [List.map_cons]
    unfold boolsOf
    rw [ih]
    rfl
theorem all_bools (l : List Bool) : allD [.list (l.map PyData.bool)] = .ok (.bool (l.all id)) := by
  show overB _ _ = _
  unfold overB
  simp only [bools_of]
theorem any_bools (l : List Bool) : anyD [.list (l.map PyData.bool)] = .ok (.bool (l.any id)) := by
  show overB _ _ = _
  unfold overB
  simp only [bools_of]
end E3

namespace H3
open PySem PySem.Spec PyProof.Rows L2 E3
local macro_rules | `(tactic| walk_at "ev") => `(tactic| try simp (disch := first | decide | decide +kernel | omega) only [fnD, startF, endF, sSeq, sAsg, sSet, sSetV, sAsgV, sIf, sRet, sNew, sNewV, sMut, sMutV, sFor, sForR, sFreeze, sNil, sExpr, optK, thenR_ok, thenR_exc, thenR_stuck,
  view, mask, E3.eVar_zero, E3.eVar_succ, eC, e1, e2, eCall, eTup, eLst, eSl, oNone, oSome, eAnd, eOr, eIf, E3.tAnd, E3.tOr, E3.tNot, E3.tB, asB, notD, aNil, aCons, Res.bind_ok, Res.bind_exc, Res.bind_stuck,
  gT, gsCons, gsNil, gN, tupD, lstD, Slot.dat, Slot.shd, List.length_cons, List.length_nil, List.map_cons, List.map_nil, List.replicate, List.append_nil, List.cons_append, List.nil_append, Option.map_some, Option.map_none, Option.bind_some, Option.bind_none,
  List.getElem?_cons_zero, List.getElem?_cons_succ, List.set_cons_zero, List.set_cons_succ, Nat.reduceAdd, Nat.reduceSub, Nat.reduceEqDiff, if_true, if_false, ite_true, ite_false, reduceIte, decide_true, decide_false, reduceCtorEq, Bool.not_true, Bool.not_false, Bool.false_eq_true, Bool.true_eq_false, Bool.or_true, Bool.true_or, Bool.false_or, Bool.or_false, Bool.and_true, Bool.and_false, Bool.true_and, Bool.false_and, addI, subI, ltI, leI, gtI, geI, eqI, neI, E3.negI, ix_cell0, ix_cell1, E3.le0, E3.le1, E3.le2, E3.le3, E3.le4, E3.le5, E3.le6, beq_self_eq_true, Int.reduceBEq, E3.divmodI, E3.modI, E3.fdivI, E3.powL, E3.mulLL, E3.isi_bool_none, E3.isi_bool_bool, E3.isi_bool_int, E3.isi_bool_str, E3.isi_bool_list, E3.isi_bool_tuple, E3.isi_int_none, E3.isi_int_bool, E3.isi_int_int, E3.isi_int_str, E3.isi_int_list, E3.isi_int_tuple, E3.isi_str_none, E3.isi_str_bool, E3.isi_str_int, E3.isi_str_str, E3.isi_str_list, E3.isi_str_tuple, E3.isi_list_none, E3.isi_list_bool, E3.isi_list_int, E3.isi_list_str, E3.isi_list_list, E3.isi_list_tuple, E3.isi_tuple_none, E3.isi_tuple_bool, E3.isi_tuple_int, E3.isi_tuple_str, E3.isi_tuple_list, E3.isi_tuple_tuple, E3.isN_none, E3.ntN_none, E3.isN_bool, E3.ntN_bool, E3.isN_int, E3.ntN_int, E3.isN_str, E3.ntN_str, E3.isN_list, E3.ntN_list, E3.isN_tuple, E3.ntN_tuple, E3.len_list, E3.len_tup, E3.seq_list, E3.seq_tup, E3.tup_list, E3.tup_tup, E3.lst_list, E3.lst_tup])
def D_less_cell : List D → Res D := fnD 2 2 (sRet (eTup (aCons (e2 subD (e2 ixD (eVar 0) (eC (.int 0))) (e2 ixD (eVar 1) (eC (.int 0)))) (aCons (e2 subD (e2 ixD (eVar 0) (eC (.int 1))) (e2 ixD (eVar 1) (eC (.int 1)))) aNil))))
def D_moved_cell : List D → Res D := fnD 2 2 (sRet (eTup (aCons (e2 addD (e2 ixD (eVar 0) (eC (.int 0))) (e2 ixD (eVar 1) (eC (.int 0)))) (aCons (e2 addD (e2 ixD (eVar 0) (eC (.int 1))) (e2 ixD (eVar 1) (eC (.int 1)))) aNil))))
def D_lies_on : List D → Res D := fnD 3 2 (sRet (eLc (fun σ => ((eVar 0) σ).bind seqOf) (gN 2) [2] tYesD (eCall D_moved_cell (aCons (eVar 2) (aCons (eVar 1) aNil)))))
def D_rising : List D → Res D := fnD 1 1 (sRet (eCall tupleD (aCons (e1 BS.sortSetB (eVar 0)) aNil)))
def I_reached_1 : DS → Res (List D) := (fun σ => ((eVar 0) σ).bind seqOf)
def B_reached_1 : SF := (sMut 2 extendM (aCons (eCall D_lies_on (aCons (eVar 1) (aCons (eVar 3) aNil))) aNil))
def D_reached : List D → Res D := fnD 4 2 (sSeq (sNew 2 (eLst aNil))
  (sSeq (sFor I_reached_1 (gN 3)
  B_reached_1)
  (sFreeze 2 (sRet (eCall D_rising (aCons (eVar 2) aNil))))))
def I_kept_at_1 : DS → Res (List D) := (fun σ => ((eVar 0) σ).bind seqOf)
def I_kept_at_2 : DS → Res (List D) := (fun σ => ((eVar 0) σ).bind seqOf)
def B_kept_at_1 : SF := (sSeq (sSet 5 (eCall D_less_cell (aCons (eVar 3) (aCons (e2 ixD (eVar 1) (eC (.int 0))) aNil))))
  (sIf (E3.tB (eCall allD (aCons (eLc (fun σ => ((eCall D_lies_on (aCons (eVar 1) (aCons (eVar 5) aNil))) σ).bind seqOf) (gN 6) [6] tYesD (e2 inG (eVar 6) (eVar 2))) aNil))) (sMut 4 appendM (aCons (eVar 5) aNil)) sNil))
def T_kept_at_1 : SF := (sFreeze 2 (sSeq (sNew 4 (eLst aNil))
  (sSeq (sFor I_kept_at_2 (gN 3)
  B_kept_at_1)
  (sFreeze 4 (sRet (eCall tupleD (aCons (eVar 4) aNil)))))))
def D_kept_at : List D → Res D := fnD 7 2 (sSeq (sNew 2 (eC (.dict [])))
  (sSeq (sFor I_kept_at_1 (gN 3)
  (sPut 2 (eVar 3) (eC (.bool true))))
  T_kept_at_1))
def D_mirrored : List D → Res D := fnD 3 1 (sRet (eCall D_rising (aCons (eLc (fun σ => ((eVar 0) σ).bind seqOf) (gT 2 (gsCons (gN 1) (gsCons (gN 2) gsNil))) [1, 2] tYesD (eTup (aCons (e2 subD (eC (.int 0)) (eVar 1)) (aCons (e2 subD (eC (.int 0)) (eVar 2)) aNil)))) aNil)))
def C_grown_1 : SF := (sRet (eTup (aCons (eCall D_kept_at (aCons (eVar 2) (aCons (eCall D_mirrored (aCons (eVar 1) aNil)) aNil))) (aCons (eC (.bool true)) aNil))))
def D_grown : List D → Res D := fnD 4 2 (sSeq (sAsg (gT 2 (gsCons (gN 2) (gsCons (gN 3) gsNil))) (eVar 0))
  (sSeq (sIf (E3.tB (eVar 3)) C_grown_1 sNil)
  (sRet (eTup (aCons (eCall D_reached (aCons (eVar 2) (aCons (eVar 1) aNil))) (aCons (eC (.bool false)) aNil))))))
def C_eaten_1 : SF := (sRet (eTup (aCons (eCall D_reached (aCons (eVar 2) (aCons (eCall D_mirrored (aCons (eVar 1) aNil)) aNil))) (aCons (eC (.bool true)) aNil))))
def D_eaten : List D → Res D := fnD 4 2 (sSeq (sAsg (gT 2 (gsCons (gN 2) (gsCons (gN 3) gsNil))) (eVar 0))
  (sSeq (sIf (E3.tB (eVar 3)) C_eaten_1 sNil)
  (sRet (eTup (aCons (eCall D_kept_at (aCons (eVar 2) (aCons (eVar 1) aNil))) (aCons (eC (.bool false)) aNil))))))
def D_opened : List D → Res D := fnD 2 2 (sRet (eCall D_grown (aCons (eCall D_eaten (aCons (eVar 0) (aCons (eVar 1) aNil))) (aCons (eVar 1) aNil))))
def D_closed : List D → Res D := fnD 2 2 (sRet (eCall D_eaten (aCons (eCall D_grown (aCons (eVar 0) (aCons (eVar 1) aNil))) (aCons (eVar 1) aNil))))
def negC (p : Int × Int) : Int × Int := (0 - p.1, 0 - p.2)
def reach (P cs : List (Int × Int)) : List (Int × Int) := cs.flatMap fun c => P.map fun s => plusC s c
theorem rising_big (ps : List (Int × Int)) (hl : (srt ps).length ≤ 4094) : D_rising [.list (ps.map cellD)] = .ok (.tuple ((srt ps).map cellD)) := by
  have h := sortSetB_big ps hl
  unfold D_rising
  walk_at "ev"
  rw [show BS.sortSetB (.list (ps.map cellD)) = _ from h]
  walk_at "ev"
theorem rising_ok (ps : List (Int × Int)) (hl : ps.length ≤ 3999) : D_rising [.list (ps.map cellD)] = .ok (.tuple ((srt ps).map cellD)) := rising_big ps (Nat.le_trans (srt_len ps) (by omega))
theorem lies_ok (P : List (Int × Int)) (c : Int × Int) (hl : P.length ≤ 1000) : D_lies_on [tupC P, cellD c] = .ok (.list ((P.map fun s => plusC s c).map cellD)) := by
  unfold D_lies_on
  walk_at "ev"
  rw [lcC (g := fun s => cellD (plusC s c)) P rfl (by omega) (fun p _ => rfl) (show 2 < 3 by decide)]
  walk_at "ev"
  rw [List.map_map]
  rfl
theorem mir_ok (P : List (Int × Int)) (hl : P.length ≤ 1000) : D_mirrored [tupC P] = .ok (tupC (srt (P.map negC))) := by
  have h := rising_ok (P.map negC) (by rw [List.length_map]; omega)
  have lc : eLc (fun σ => ((eVar 0) σ).bind seqOf) (gT 2 (gsCons (gN 1) (gsCons (gN 2) gsNil))) [1, 2] tYesD (eTup (aCons (e2 subD (eC (.int 0)) (eVar 1)) (aCons (e2 subD (eC (.int 0)) (eVar 2)) aNil))) [some (tupC P), none, none] = .ok (.list ((P.map negC).map cellD)) := by
    unfold eLc
    show (Res.bind (Res.ok (P.map cellD)) _) = _
    rw [Res.bind_ok, if_pos (by rw [List.length_map, sizeLine_eq]; omega), List.map_map, lc_of (g := cellD) (q := fun p => cellD (negC p)) P fun p _ => ⟨_, rfl, rfl, rfl⟩]
    rfl
  unfold D_mirrored
  walk_at "ev"
  rw [lc]
  walk_at "ev"
  rw [h]
  walk_at "ev"
  rfl
theorem reach_len (P : List (Int × Int)) : ∀ cs : List (Int × Int), (reach P cs).length = cs.length * P.length
  | [] => by simp [reach]
  | c :: cs => by
    have := reach_len P cs
    unfold reach at this ⊢
    rw [List.flatMap_cons, List.length_append, List.length_map, this, List.length_cons, Nat.add_mul]
    omega
theorem reached_big (P cs : List (Int × Int)) (hl : P.length ≤ 1000) (hc : cs.length * P.length ≤ 100000) (hd : (srt (reach P cs)).length ≤ 4094) : D_reached [tupC cs, tupC P] = .ok (tupC (srt (reach P cs))) := by
  obtain ⟨σ', e, y3, rfl⟩ := forS_pre (p := gN 3) (body := B_reached_1) (g := cellD) (Inv := fun pre σ => ∃ y3, σ = [some (.sh (tupC cs)), some (.sh (tupC P)), some (.ow (.list ((reach P pre).map cellD))), y3]) cs [some (.sh (tupC cs)), some (.sh (tupC P)), some (.ow (.list [])), none] ⟨_, rfl⟩ (by
    rintro pre c post σ he ⟨y3, rfl⟩
    have e1 := lies_ok P c hl
    have lr : (reach P (pre ++ [c])).length ≤ 100000 := by
      have h1 : (pre ++ [c]).length ≤ cs.length := by
        rw [he]; simp
      rw [reach_len]
      exact Nat.le_trans (Nat.mul_le_mul_right _ h1) hc
    have er : reach P (pre ++ [c]) = reach P pre ++ P.map fun s => plusC s c := by
      unfold reach
      rw [List.flatMap_append]
      simp
    have ex : extendM ((reach P pre).map cellD) [.list ((P.map fun s => plusC s c).map cellD)] = some (.none, (reach P (pre ++ [c])).map cellD) := by
      show (if _ then _ else _) = _
      rw [if_pos (by rw [List.length_map, List.length_map, ← List.length_append, ← er, sizeLine_eq]; omega), ← List.map_append, ← er]
    refine ⟨_, [some (.sh (tupC cs)), some (.sh (tupC P)), some (.ow (.list ((reach P (pre ++ [c])).map cellD))), some (.sh (cellD c))], rfl, .inl ?_, _, rfl⟩
    show B_reached_1 [some (.sh (tupC cs)), some (.sh (tupC P)), some (.ow (.list ((reach P pre).map cellD))), some (.sh (cellD c))] = _
    unfold B_reached_1
    walk_at "ev"
    simp only [ownL, List.getElem?_cons_zero, List.getElem?_cons_succ]
    walk_at "ev"
    rw [e1]
    walk_at "ev"
    rw [ex]
    simp only [mutK, List.getElem?_cons_zero, List.getElem?_cons_succ]
    walk_at "ev")
  have it : ∀ y1 y2 y3 : Option D, I_reached_1 [some (tupC cs), y1, y2, y3] = .ok (cs.map cellD) := fun _ _ _ => rfl
  have er := rising_big (reach P cs) hd
  unfold D_reached
  walk_at "ev"
  rw [it]
  walk_at "ev"
  rw [show forS (gN 3) B_reached_1 (cs.map cellD) [some (.sh (tupC cs)), some (.sh (tupC P)), some (.ow (.list [])), none] = _ from e]
  walk_at "ev"
  rw [er]
  walk_at "ev"
  rfl
theorem reached_ok (P cs : List (Int × Int)) (hl : P.length ≤ 1000) (hc : cs.length * P.length ≤ 3999) : D_reached [tupC cs, tupC P] = .ok (tupC (srt (reach P cs))) :=
  reached_big P cs hl (by omega) (Nat.le_trans (srt_len _) (by rw [reach_len]; omega))
def fitsB (P cs : List (Int × Int)) (p : Int × Int) : Bool := P.all fun s => decide (plusC s p ∈ cs)
def keptL (P cs : List (Int × Int)) (a : Int × Int) : List (Int × Int) := (cs.map fun c => lessC c a).filter (fitsB P cs)
theorem in_dict (ps : List (Int × Int)) (kvs : List (D × D)) (ho : obK kvs = false) (hk : ∀ p, hasK kvs (kOf p) = decide (p ∈ ps)) (p : Int × Int) : inG (cellD p) (.dict kvs) = .ok (.bool (decide (p ∈ ps))) := by
  have ky : keyOf (cellD p) = some (kOf p) := intsOf_map (kOf p)
  rw [inG_dict ho ky]
  simp only [val_has, hk]
theorem held_loop (P cs : List (Int × Int)) (hl : cs.length ≤ 10000) : ∃ (kvs : List (D × D)) (y3 : Option Slot), obK kvs = false ∧ (∀ p, hasK kvs (kOf p) = decide (p ∈ cs)) ∧
    forS (gN 3) (sPut 2 (eVar 3) (eC (.bool true))) (cs.map cellD) [some (.sh (tupC cs)), some (.sh (tupC P)), some (.ow (.dict [])), none, none, none, none] = .ok .nx [some (.sh (tupC cs)), some (.sh (tupC P)), some (.ow (.dict kvs)), y3, none, none, none] := by
  obtain ⟨σ', e, kvs, y8, ho, hk, hlen, rfl⟩ := forS_pre (p := gN 3) (body := sPut 2 (eVar 3) (eC (.bool true))) (g := cellD)
    (Inv := fun pre σ => ∃ (kvs : List (D × D)) (y8 : Option Slot), obK kvs = false ∧ (∀ p, hasK kvs (kOf p) = decide (p ∈ pre)) ∧ kvs.length ≤ pre.length ∧ σ = [some (.sh (tupC cs)), some (.sh (tupC P)), some (.ow (.dict kvs)), y8, none, none, none]) cs
    [some (.sh (tupC cs)), some (.sh (tupC P)), some (.ow (.dict [])), none, none, none, none] ⟨[], none, rfl, fun p => by simp [hasK], Nat.le_refl _, rfl⟩ (by
      rintro pre x post σ he ⟨kvs, y8, ho, hk, hlen, rfl⟩
      have hn : cs.length = pre.length + (post.length + 1) := by rw [he, List.length_append, List.length_cons]
      have hs : kvs.length < sizeLine := by have := sizeLine_eq; omega
      refine ⟨_, _, rfl, .inl ?_, putKD kvs (kOf x) (.bool true), some (.sh (cellD x)), ob_put _ _ ho, fun p => ?_, ?_, rfl⟩
      · have ky : keyOf (cellD x) = some (kOf x) := intsOf_map (kOf x)
        simp only [sPut, ownD, List.getElem?_cons_succ, List.getElem?_cons_zero, List.set_cons_succ, List.set_cons_zero, eC, thenR_ok, mask, List.map_cons, List.map_nil, eVar_succ, eVar_zero, Option.bind_some, Slot.shd, putS, ky, hs, if_true]
      · rw [has_put, hk]
        by_cases z : x = p
        · subst z; simp
        · have z2 : ¬ kOf x = kOf p := fun y => z (kOf_eq.mp y)
          have z3 : p ≠ x := fun y => z y.symm
          simp [z2, z3]
      · have := len_put kvs (kOf x) (.bool true)
        rw [List.length_append, List.length_singleton]; omega)
  exact ⟨kvs, y8, ho, hk, e⟩
def keptE : DS → Res D := eLc (fun σ => ((eCall D_lies_on (aCons (eVar 1) (aCons (eVar 5) aNil))) σ).bind seqOf) (gN 6) [6] tYesD (e2 inG (eVar 6) (eVar 2))
theorem q_kept : B_kept_at_1 = (sSeq (sSet 5 (eCall D_less_cell (aCons (eVar 3) (aCons (e2 ixD (eVar 1) (eC (.int 0))) aNil))))
  (sIf (E3.tB (eCall allD (aCons keptE aNil))) (sMut 4 appendM (aCons (eVar 5) aNil)) sNil)) := rfl
theorem kept_turn (P cs : List (Int × Int)) (a : Int × Int) (hP : ixD (tupC P) (.int 0) = .ok (cellD a)) (hl : P.length ≤ 1000) (kv : D) (hin : ∀ p, inG (cellD p) kv = .ok (.bool (decide (p ∈ cs)))) (c : Int × Int) (acc : List (Int × Int)) (ha : acc.length < 10000) (y5 : Option Slot) :
    B_kept_at_1 [some (.sh (tupC cs)), some (.sh (tupC P)), some (.sh kv), some (.sh (cellD c)), some (.ow (.list (acc.map cellD))), y5, none] =
      .ok .nx [some (.sh (tupC cs)), some (.sh (tupC P)), some (.sh kv), some (.sh (cellD c)), some (.ow (.list ((if fitsB P cs (lessC c a) then acc ++ [lessC c a] else acc).map cellD))), some (.sh (cellD (lessC c a))), none] := by
  have e1 : D_less_cell [cellD c, cellD a] = .ok (cellD (lessC c a)) := less_ok c a
  generalize lessC c a = q at *
  have e2 := lies_ok P q hl
  have lc : ∀ y4 : Option D, keptE [some (tupC cs), some (tupC P), some kv, some (cellD c), y4, some (cellD q), none] = .ok (.list (((P.map fun s => plusC s q).map fun p => decide (p ∈ cs)).map PyData.bool)) := fun y4 => by
    rw [List.map_map]
    exact lcC (g := fun p => .bool (decide (p ∈ cs))) (P.map fun s => plusC s q) (by
      show ((D_lies_on [tupC P, cellD q]).bind seqOf) = _
      rw [e2]; rfl) (by rw [List.length_map]; omega) (fun p _ => hin p) (show 6 < 7 by decide)
  have e3 := all_bools ((P.map fun s => plusC s q).map fun p => decide (p ∈ cs))
  have e4 : ((P.map fun s => plusC s q).map fun p => decide (p ∈ cs)).all id = fitsB P cs q := by
    unfold fitsB
    rw [List.all_map, List.all_map]
    rfl
  rw [e4] at e3
  generalize (((P.map fun s => plusC s q).map fun p => decide (p ∈ cs)).map PyData.bool) = bs at *
  have am : appendM (acc.map cellD) [cellD q] = some (.none, acc.map cellD ++ [cellD q]) := by
    have : (acc.map cellD).length < sizeLine := by rw [List.length_map, sizeLine_eq]; omega
    simp only [appendM, this, if_true]
  rw [q_kept]
  walk_at "ev"
  rw [hP]
  walk_at "ev"
  rw [e1]
  walk_at "ev"
  rw [lc]
  walk_at "ev"
  rw [e3]
  cases fitsB P cs q with
  | false => walk_at "ev"
  | true =>
    walk_at "ev"
    simp only [ownL, List.getElem?_cons_zero, List.getElem?_cons_succ]
    walk_at "ev"
    rw [am]
    simp only [mutK, List.getElem?_cons_zero, List.getElem?_cons_succ]
    walk_at "ev"
    rw [List.map_append]
    rfl
theorem kept_ok (P cs : List (Int × Int)) (a : Int × Int) (hP : ixD (tupC P) (.int 0) = .ok (cellD a)) (hl : P.length ≤ 1000) (hc : cs.length ≤ 9000) : D_kept_at [tupC cs, tupC P] = .ok (tupC (keptL P cs a)) := by
  obtain ⟨kvs, y3, ho, hk, e1⟩ := held_loop P cs (by omega)
  have hin := in_dict cs kvs ho hk
  generalize hkv : PyData.dict kvs = kv at *
  obtain ⟨σ', e, z3, z5, rfl⟩ := forS_pre (p := gN 3) (body := B_kept_at_1) (g := cellD) (Inv := fun pre σ => ∃ z3 z5, σ = [some (.sh (tupC cs)), some (.sh (tupC P)), some (.sh kv), z3, some (.ow (.list (((pre.map fun c => lessC c a).filter (fitsB P cs)).map cellD))), z5, none]) cs
    [some (.sh (tupC cs)), some (.sh (tupC P)), some (.sh kv), y3, some (.ow (.list [])), none, none] ⟨_, _, rfl⟩ (by
    rintro pre c post σ he ⟨z3, z5, rfl⟩
    have hlen : pre.length < 9001 := by
      have := congrArg List.length he
      rw [List.length_append, List.length_cons] at this
      omega
    have e := kept_turn P cs a hP hl kv hin c ((pre.map fun c => lessC c a).filter (fitsB P cs)) (Nat.lt_of_le_of_lt (List.length_filter_le _ _) (by rw [List.length_map]; omega)) z5
    refine ⟨_, _, rfl, .inl e, some (.sh (cellD c)), some (.sh (cellD (lessC c a))), ?_⟩
    have : (((pre ++ [c]).map fun c => lessC c a).filter (fitsB P cs)) = if fitsB P cs (lessC c a) then (pre.map fun c => lessC c a).filter (fitsB P cs) ++ [lessC c a] else (pre.map fun c => lessC c a).filter (fitsB P cs) := by
      rw [List.map_append, List.filter_append]
      cases h : fitsB P cs (lessC c a) <;> simp [h]
    rw [this])
  have i1 : ∀ y1 y2 y3 y4 y5 y6 : Option D, I_kept_at_1 [some (tupC cs), y1, y2, y3, y4, y5, y6] = .ok (cs.map cellD) := fun _ _ _ _ _ _ => rfl
  have i2 : ∀ y1 y2 y3 y4 y5 y6 : Option D, I_kept_at_2 [some (tupC cs), y1, y2, y3, y4, y5, y6] = .ok (cs.map cellD) := fun _ _ _ _ _ _ => rfl
  unfold D_kept_at
  walk_at "ev"
  rw [i1]
  walk_at "ev"
  rw [show forS (gN 3) (sPut 2 (eVar 3) (eC (.bool true))) (cs.map cellD) [some (.sh (tupC cs)), some (.sh (tupC P)), some (.ow (.dict [])), none, none, none, none] = _ from e1]
  walk_at "ev"
  unfold T_kept_at_1
  walk_at "ev"
  rw [i2]
  walk_at "ev"
  try rw [hkv]
  rw [show forS (gN 3) B_kept_at_1 (cs.map cellD) [some (.sh (tupC cs)), some (.sh (tupC P)), some (.sh kv), y3, some (.ow (.list [])), none, none] = _ from e]
  walk_at "ev"
  rfl
end H3

namespace H3
open PySem PySem.Spec PyProof.Rows L2 E3
local macro_rules | `(tactic| walk_at "ev") => `(tactic| try simp (disch := first | decide | decide +kernel | omega) only [fnD, startF, endF, sSeq, sAsg, sSet, sSetV, sAsgV, sIf, sRet, sNew, sNewV, sMut, sMutV, sFor, sForR, sFreeze, sNil, sExpr, optK, thenR_ok, thenR_exc, thenR_stuck,
  view, mask, E3.eVar_zero, E3.eVar_succ, eC, e1, e2, eCall, eTup, eLst, eSl, oNone, oSome, eAnd, eOr, eIf, E3.tAnd, E3.tOr, E3.tNot, E3.tB, asB, notD, aNil, aCons, Res.bind_ok, Res.bind_exc, Res.bind_stuck,
  gT, gsCons, gsNil, gN, tupD, lstD, Slot.dat, Slot.shd, List.length_cons, List.length_nil, List.map_cons, List.map_nil, List.replicate, List.append_nil, List.cons_append, List.nil_append, Option.map_some, Option.map_none, Option.bind_some, Option.bind_none,
  List.getElem?_cons_zero, List.getElem?_cons_succ, List.set_cons_zero, List.set_cons_succ, Nat.reduceAdd, Nat.reduceSub, Nat.reduceEqDiff, if_true, if_false, ite_true, ite_false, reduceIte, decide_true, decide_false, reduceCtorEq, Bool.not_true, Bool.not_false, Bool.false_eq_true, Bool.true_eq_false, Bool.or_true, Bool.true_or, Bool.false_or, Bool.or_false, Bool.and_true, Bool.and_false, Bool.true_and, Bool.false_and, addI, subI, ltI, leI, gtI, geI, eqI, neI, E3.negI, ix_cell0, ix_cell1, E3.le0, E3.le1, E3.le2, E3.le3, E3.le4, E3.le5, E3.le6, beq_self_eq_true, Int.reduceBEq, E3.divmodI, E3.modI, E3.fdivI, E3.powL, E3.mulLL, E3.isi_bool_none, E3.isi_bool_bool, E3.isi_bool_int, E3.isi_bool_str, E3.isi_bool_list, E3.isi_bool_tuple, E3.isi_int_none, E3.isi_int_bool, E3.isi_int_int, E3.isi_int_str, E3.isi_int_list, E3.isi_int_tuple, E3.isi_str_none, E3.isi_str_bool, E3.isi_str_int, E3.isi_str_str, E3.isi_str_list, E3.isi_str_tuple, E3.isi_list_none, E3.isi_list_bool, E3.isi_list_int, E3.isi_list_str, E3.isi_list_list, E3.isi_list_tuple, E3.isi_tuple_none, E3.isi_tuple_bool, E3.isi_tuple_int, E3.isi_tuple_str, E3.isi_tuple_list, E3.isi_tuple_tuple, E3.isN_none, E3.ntN_none, E3.isN_bool, E3.ntN_bool, E3.isN_int, E3.ntN_int, E3.isN_str, E3.ntN_str, E3.isN_list, E3.ntN_list, E3.isN_tuple, E3.ntN_tuple, E3.len_list, E3.len_tup, E3.seq_list, E3.seq_tup, E3.tup_list, E3.tup_tup, E3.lst_list, E3.lst_tup])
theorem ltP_less {p q : Int × Int} (a : Int × Int) (h : ltP p q) : ltP (lessC p a) (lessC q a) := by
  rcases h with h | ⟨h, k⟩
  · exact .inl (by show p.1 - a.1 < q.1 - a.1; omega)
  · exact .inr ⟨by show p.1 - a.1 = q.1 - a.1; omega, by show p.2 - a.2 < q.2 - a.2; omega⟩
theorem pw_kept {P cs : List (Int × Int)} (a : Int × Int) (h : cs.Pairwise ltP) : (keptL P cs a).Pairwise ltP := (List.pairwise_map.mpr (h.imp fun hp => ltP_less a hp)).filter _
theorem len_kept (P cs : List (Int × Int)) (a : Int × Int) : (keptL P cs a).length ≤ cs.length := by
  unfold keptL
  exact Nat.le_trans (List.length_filter_le _ _) (by rw [List.length_map]; exact Nat.le_refl _)
theorem mem_reach {P cs : List (Int × Int)} {p : Int × Int} : p ∈ reach P cs ↔ ∃ s ∈ P, lessC p s ∈ cs := by
  unfold reach
  rw [List.mem_flatMap]
  constructor
  · rintro ⟨c, hc, h⟩
    obtain ⟨s, hs, rfl⟩ := List.mem_map.mp h
    refine ⟨s, hs, ?_⟩
    have : lessC (plusC s c) s = c := Prod.ext (show s.1 + c.1 - s.1 = c.1 by omega) (show s.2 + c.2 - s.2 = c.2 by omega)
    rw [this]; exact hc
  · rintro ⟨s, hs, h⟩
    exact ⟨_, h, List.mem_map.mpr ⟨s, hs, Prod.ext (show s.1 + (p.1 - s.1) = p.1 by omega) (show s.2 + (p.2 - s.2) = p.2 by omega)⟩⟩
theorem mem_kept {P cs : List (Int × Int)} {a p : Int × Int} (ha : a ∈ P) : p ∈ keptL P cs a ↔ ∀ s ∈ P, plusC s p ∈ cs := by
  unfold keptL fitsB
  rw [List.mem_filter, List.all_eq_true]
  constructor
  · rintro ⟨_, h⟩ s hs
    exact of_decide_eq_true (h s hs)
  · intro h
    refine ⟨List.mem_map.mpr ⟨plusC a p, h a ha, Prod.ext (show a.1 + p.1 - a.1 = p.1 by omega) (show a.2 + p.2 - a.2 = p.2 by omega)⟩, fun s hs => decide_eq_true (h s hs)⟩
def mir (P : List (Int × Int)) : List (Int × Int) := srt (P.map negC)
theorem neg_neg (p : Int × Int) : negC (negC p) = p := Prod.ext (show 0 - (0 - p.1) = p.1 by omega) (show 0 - (0 - p.2) = p.2 by omega)
theorem mem_mir {P : List (Int × Int)} {s : Int × Int} : s ∈ mir P ↔ negC s ∈ P := by
  unfold mir
  rw [mem_srt, List.mem_map]
  constructor
  · rintro ⟨t, ht, rfl⟩
    rw [neg_neg]; exact ht
  · intro h
    exact ⟨_, h, neg_neg s⟩
theorem mir_ne {P : List (Int × Int)} (h : P ≠ []) : mir P ≠ [] := by
  obtain ⟨a, l, rfl⟩ := List.exists_cons_of_ne_nil h
  intro z
  have : negC a ∈ mir (a :: l) := mem_mir.mpr (by rw [neg_neg]; exact List.mem_cons_self)
  rw [z] at this
  cases this
theorem mir_len (P : List (Int × Int)) : (mir P).length ≤ P.length := Nat.le_trans (srt_len _) (by rw [List.length_map]; exact Nat.le_refl _)
theorem head_mem {P : List (Int × Int)} (h : P ≠ []) : P.headD (0, 0) ∈ P ∧ ixD (tupC P) (.int 0) = .ok (cellD (P.headD (0, 0))) := by
  obtain ⟨a, l, rfl⟩ := List.exists_cons_of_ne_nil h
  exact ⟨List.mem_cons_self, ix_tup0 _ _⟩
def gr (cs : List (Int × Int)) (r : Bool) (P : List (Int × Int)) : List (Int × Int) := if r then keptL (mir P) cs ((mir P).headD (0, 0)) else srt (reach P cs)
def ea (cs : List (Int × Int)) (r : Bool) (P : List (Int × Int)) : List (Int × Int) := if r then srt (reach (mir P) cs) else keptL P cs (P.headD (0, 0))
theorem boolEq {x y : Bool} (h : x = true ↔ y = true) : x = y := by cases x <;> cases y <;> simp_all
theorem has_gr (cs : List (Int × Int)) (r : Bool) {P : List (Int × Int)} (hP : P ≠ []) (p : Int × Int) : hasB (gr cs r P) r p = P.any fun s => hasB cs r (lessC p s) := by
  cases r with
  | false =>
    refine boolEq ?_
    unfold gr hasB
    simp only [Bool.false_eq_true, if_false, Bool.bne_false, decide_eq_true_eq, List.any_eq_true]
    rw [mem_srt, mem_reach]
  | true =>
    refine boolEq ?_
    unfold gr hasB
    simp only [if_true, Bool.bne_true, Bool.not_eq_true', decide_eq_false_iff_not, List.any_eq_true]
    rw [mem_kept (head_mem (mir_ne hP)).1]
    constructor
    · intro h
      refine Classical.byContradiction fun z => h fun s hs => Classical.byContradiction fun k => z ⟨negC s, mem_mir.mp hs, ?_⟩
      have : lessC p (negC s) = plusC s p := Prod.ext (show p.1 - (0 - s.1) = s.1 + p.1 by omega) (show p.2 - (0 - s.2) = s.2 + p.2 by omega)
      rw [this]; exact k
    · rintro ⟨s, hs, k⟩ h
      have := h (negC s) (mem_mir.mpr (by rw [neg_neg]; exact hs))
      have e : plusC (negC s) p = lessC p s := Prod.ext (show 0 - s.1 + p.1 = p.1 - s.1 by omega) (show 0 - s.2 + p.2 = p.2 - s.2 by omega)
      rw [e] at this
      exact k this
theorem has_ea (cs : List (Int × Int)) (r : Bool) {P : List (Int × Int)} (hP : P ≠ []) (p : Int × Int) : hasB (ea cs r P) r p = P.all fun s => hasB cs r (plusC s p) := by
  cases r with
  | false =>
    refine boolEq ?_
    unfold ea hasB
    simp only [Bool.false_eq_true, if_false, Bool.bne_false, decide_eq_true_eq, List.all_eq_true]
    rw [mem_kept (head_mem hP).1]
  | true =>
    refine boolEq ?_
    unfold ea hasB
    simp only [if_true, Bool.bne_true, Bool.not_eq_true', decide_eq_false_iff_not, List.all_eq_true]
    rw [mem_srt, mem_reach]
    constructor
    · intro h s hs k
      refine h ⟨negC s, mem_mir.mpr (by rw [neg_neg]; exact hs), ?_⟩
      have : lessC p (negC s) = plusC s p := Prod.ext (show p.1 - (0 - s.1) = s.1 + p.1 by omega) (show p.2 - (0 - s.2) = s.2 + p.2 by omega)
      rw [this]; exact k
    · rintro h ⟨s, hs, k⟩
      have e : plusC (negC s) p = lessC p s := Prod.ext (show 0 - s.1 + p.1 = p.1 - s.1 by omega) (show 0 - s.2 + p.2 = p.2 - s.2 by omega)
      exact h (negC s) (mem_mir.mp hs) (by rw [e]; exact k)
theorem pw_gr {cs : List (Int × Int)} {r : Bool} (P : List (Int × Int)) (h : cs.Pairwise ltP) : (gr cs r P).Pairwise ltP := by
  cases r
  · exact pw_srt _
  · exact pw_kept _ h
theorem pw_ea {cs : List (Int × Int)} {r : Bool} (P : List (Int × Int)) (h : cs.Pairwise ltP) : (ea cs r P).Pairwise ltP := by
  cases r
  · exact pw_kept _ h
  · exact pw_srt _
theorem len_gr {cs P : List (Int × Int)} {r : Bool} (hP : P ≠ []) : (gr cs r P).length ≤ cs.length * P.length := by
  have : 0 < P.length := List.length_pos_iff.mpr hP
  cases r
  · exact Nat.le_trans (srt_len _) (by rw [reach_len]; exact Nat.le_refl _)
  · exact Nat.le_trans (len_kept _ _ _) (Nat.le_mul_of_pos_right _ this)
theorem len_ea {cs P : List (Int × Int)} {r : Bool} (hP : P ≠ []) : (ea cs r P).length ≤ cs.length * P.length := by
  have : 0 < P.length := List.length_pos_iff.mpr hP
  cases r
  · exact Nat.le_trans (len_kept _ _ _) (Nat.le_mul_of_pos_right _ this)
  · exact Nat.le_trans (srt_len _) (by rw [reach_len]; exact Nat.mul_le_mul_left _ (mir_len P))
theorem grown_ok (cs : List (Int × Int)) (r : Bool) (P : List (Int × Int)) (hP : P ≠ []) (hl : P.length ≤ 1000) (hc : r = false → cs.length * P.length ≤ 3999) (h9 : cs.length ≤ 9000) : D_grown [shp cs r, tupC P] = .ok (shp (gr cs r P) r) := by
  cases r with
  | false =>
    have e : D_reached [.tuple (cs.map cellD), tupC P] = .ok (.tuple ((srt (reach P cs)).map cellD)) := reached_ok P cs hl (hc rfl)
    unfold D_grown
    walk_at "ev"
    rw [e]
    walk_at "ev"
    rfl
  | true =>
    have e1 : D_mirrored [tupC P] = .ok (tupC (mir P)) := mir_ok P hl
    have e : D_kept_at [.tuple (cs.map cellD), tupC (mir P)] = .ok (.tuple ((keptL (mir P) cs ((mir P).headD (0, 0))).map cellD)) := kept_ok (mir P) cs _ (head_mem (mir_ne hP)).2 (Nat.le_trans (mir_len P) hl) h9
    unfold D_grown C_grown_1
    walk_at "ev"
    rw [e1]
    walk_at "ev"
    rw [e]
    walk_at "ev"
    rfl
theorem eaten_ok (cs : List (Int × Int)) (r : Bool) (P : List (Int × Int)) (hP : P ≠ []) (hl : P.length ≤ 1000) (hc : r = true → cs.length * P.length ≤ 3999) (h9 : cs.length ≤ 9000) : D_eaten [shp cs r, tupC P] = .ok (shp (ea cs r P) r) := by
  cases r with
  | false =>
    have e : D_kept_at [.tuple (cs.map cellD), tupC P] = .ok (.tuple ((keptL P cs (P.headD (0, 0))).map cellD)) := kept_ok P cs _ (head_mem hP).2 hl h9
    unfold D_eaten
    walk_at "ev"
    rw [e]
    walk_at "ev"
    rfl
  | true =>
    have e1 : D_mirrored [tupC P] = .ok (tupC (mir P)) := mir_ok P hl
    have e : D_reached [.tuple (cs.map cellD), tupC (mir P)] = .ok (.tuple ((srt (reach (mir P) cs)).map cellD)) := reached_ok (mir P) cs (Nat.le_trans (mir_len P) hl) (Nat.le_trans (Nat.mul_le_mul_left _ (mir_len P)) (hc rfl))
    unfold D_eaten C_eaten_1
    walk_at "ev"
    rw [e1]
    walk_at "ev"
    rw [e]
    walk_at "ev"
    rfl
theorem grown_big (cs : List (Int × Int)) (r : Bool) (P : List (Int × Int)) (hP : P ≠ []) (hl : P.length ≤ 1000) (hc : cs.length * P.length ≤ 100000) (hd : (gr cs r P).length ≤ 4094) (h9 : cs.length ≤ 9000) : D_grown [shp cs r, tupC P] = .ok (shp (gr cs r P) r) := by
  cases r with
  | false =>
    have e : D_reached [.tuple (cs.map cellD), tupC P] = .ok (.tuple ((srt (reach P cs)).map cellD)) := reached_big P cs hl hc hd
    unfold D_grown
    walk_at "ev"
    rw [e]
    walk_at "ev"
    rfl
  | true => exact grown_ok cs true P hP hl (fun z => nomatch z) h9
theorem eaten_big (cs : List (Int × Int)) (r : Bool) (P : List (Int × Int)) (hP : P ≠ []) (hl : P.length ≤ 1000) (hc : cs.length * P.length ≤ 100000) (hd : (ea cs r P).length ≤ 4094) (h9 : cs.length ≤ 9000) : D_eaten [shp cs r, tupC P] = .ok (shp (ea cs r P) r) := by
  cases r with
  | false => exact eaten_ok cs false P hP hl (fun z => nomatch z) h9
  | true =>
    have e1 : D_mirrored [tupC P] = .ok (tupC (mir P)) := mir_ok P hl
    have e : D_reached [.tuple (cs.map cellD), tupC (mir P)] = .ok (.tuple ((srt (reach (mir P) cs)).map cellD)) := reached_big (mir P) cs (Nat.le_trans (mir_len P) hl) (Nat.le_trans (Nat.mul_le_mul_left _ (mir_len P)) hc) hd
    unfold D_eaten C_eaten_1
    walk_at "ev"
    rw [e1]
    walk_at "ev"
    rw [e]
    walk_at "ev"
    rfl
theorem opened_big (cs : List (Int × Int)) (r : Bool) (P : List (Int × Int)) (hP : P ≠ []) (hl : P.length ≤ 1000) (hc : cs.length * P.length ≤ 100000) (h9 : cs.length ≤ 9000) (hd : (ea cs r P).length ≤ 4094) (hd2 : (gr (ea cs r P) r P).length ≤ 4094) : D_opened [shp cs r, tupC P] = .ok (shp (gr (ea cs r P) r P) r) := by
  have e1 := eaten_big cs r P hP hl hc hd h9
  have e2 : D_grown [shp (ea cs r P) r, tupC P] = .ok (shp (gr (ea cs r P) r P) r) := by
    cases r with
    | false => exact grown_big _ false P hP hl (Nat.le_trans (Nat.mul_le_mul_right _ (len_kept P cs _)) hc) hd2 (by omega)
    | true => exact grown_ok _ true P hP hl (fun z => nomatch z) (by omega)
  unfold D_opened
  walk_at "ev"
  rw [e1]
  walk_at "ev"
  rw [e2]
  walk_at "ev"
theorem closed_big (cs : List (Int × Int)) (r : Bool) (P : List (Int × Int)) (hP : P ≠ []) (hl : P.length ≤ 1000) (hc : cs.length * P.length ≤ 100000) (h9 : cs.length ≤ 9000) (hd : (gr cs r P).length ≤ 4094) (hd2 : (ea (gr cs r P) r P).length ≤ 4094) : D_closed [shp cs r, tupC P] = .ok (shp (ea (gr cs r P) r P) r) := by
  have e1 := grown_big cs r P hP hl hc hd h9
  have e2 : D_eaten [shp (gr cs r P) r, tupC P] = .ok (shp (ea (gr cs r P) r P) r) := by
    cases r with
    | false => exact eaten_ok _ false P hP hl (fun z => nomatch z) (by omega)
    | true => exact eaten_big _ true P hP hl (Nat.le_trans (Nat.mul_le_mul_right _ (len_kept (mir P) cs _)) hc) hd2 (by omega)
  unfold D_closed
  walk_at "ev"
  rw [e1]
  walk_at "ev"
  rw [e2]
  walk_at "ev"
theorem le_mul {cs P : List (Int × Int)} (hP : P ≠ []) : cs.length ≤ cs.length * P.length := Nat.le_mul_of_pos_right _ (List.length_pos_iff.mpr hP)
theorem opened_ok (cs : List (Int × Int)) (r : Bool) (P : List (Int × Int)) (hP : P ≠ []) (hl : P.length ≤ 1000) (hc : cs.length * P.length ≤ 3999) : D_opened [shp cs r, tupC P] = .ok (shp (gr (ea cs r P) r P) r) := by
  have l1 := le_mul (cs := cs) hP
  have l2 := len_ea (cs := cs) (r := r) hP
  have e1 := eaten_ok cs r P hP hl (fun _ => hc) (by omega)
  have e2 := grown_ok (ea cs r P) r P hP hl (fun hr => by
    subst hr
    exact Nat.le_trans (Nat.mul_le_mul_right _ (len_kept P cs _)) hc) (by omega)
  unfold D_opened
  walk_at "ev"
  rw [e1]
  walk_at "ev"
  rw [e2]
  walk_at "ev"
theorem closed_ok (cs : List (Int × Int)) (r : Bool) (P : List (Int × Int)) (hP : P ≠ []) (hl : P.length ≤ 1000) (hc : cs.length * P.length ≤ 3999) : D_closed [shp cs r, tupC P] = .ok (shp (ea (gr cs r P) r P) r) := by
  have l1 := le_mul (cs := cs) hP
  have l2 := len_gr (cs := cs) (r := r) hP
  have e1 := grown_ok cs r P hP hl (fun _ => hc) (by omega)
  have e2 := eaten_ok (gr cs r P) r P hP hl (fun hr => by
    subst hr
    exact Nat.le_trans (Nat.mul_le_mul_right _ (len_kept (mir P) cs _)) hc) (by omega)
  unfold D_closed
  walk_at "ev"
  rw [e1]
  walk_at "ev"
  rw [e2]
  walk_at "ev"
theorem pw_op {cs : List (Int × Int)} {r : Bool} (P : List (Int × Int)) (h : cs.Pairwise ltP) : (gr (ea cs r P) r P).Pairwise ltP := pw_gr P (pw_ea P h)
theorem pw_cl {cs : List (Int × Int)} {r : Bool} (P : List (Int × Int)) (h : cs.Pairwise ltP) : (ea (gr cs r P) r P).Pairwise ltP := pw_ea P (pw_gr P h)
theorem has_op (cs : List (Int × Int)) (r : Bool) {P : List (Int × Int)} (hP : P ≠ []) (p : Int × Int) : hasB (gr (ea cs r P) r P) r p = P.any fun s => P.all fun t => hasB cs r (plusC t (lessC p s)) := by
  rw [has_gr _ _ hP]
  congr 1
  funext s
  exact has_ea _ _ hP _
theorem has_cl (cs : List (Int × Int)) (r : Bool) {P : List (Int × Int)} (hP : P ≠ []) (p : Int × Int) : hasB (ea (gr cs r P) r P) r p = P.all fun s => P.any fun t => hasB cs r (lessC (plusC s p) t) := by
  rw [has_ea _ _ hP]
  congr 1
  funext s
  exact has_gr _ _ hP _
end H3

namespace E3
open PySem PySem.Spec PyProof.Rows L2
theorem flatR_i (i : Int) : flatR (.ok (.int i)) = .ok (.int i) := rfl
theorem flatR_b (i : Bool) : flatR (.ok (.bool i)) = .ok (.bool i) := rfl
theorem flatR_ii (i j : Int) : flatR (.ok (.tuple [.int i, .int j])) = .ok (.tuple [.int i, .int j]) := rfl
theorem flatR_c (p : Int × Int) : flatR (.ok (cellD p)) = .ok (cellD p) := rfl
def PQ (r : Res (D × List D)) (P : D → Prop) : Prop := ∃ d n, r = .ok (d, [.int n]) ∧ 0 ≤ n ∧ P d
theorem PQ.ok {d : D} {n : Int} {P : D → Prop} (hn : 0 ≤ n) (h : P d) : PQ (.ok (d, [.int n])) P := ⟨d, n, rfl, hn, h⟩
theorem ix4 (a b c d : Int) {g : Int} (h0 : 0 ≤ g) (h1 : g < 4) : ∃ w, ixD (.list [.int a, .int b, .int c, .int d]) (.int g) = .ok (.int w) ∧ (w = a ∨ w = b ∨ w = c ∨ w = d) := by
  have : g = 0 ∨ g = 1 ∨ g = 2 ∨ g = 3 := by omega
  rcases this with rfl | rfl | rfl | rfl
  · exact ⟨a, rfl, .inl rfl⟩
  · exact ⟨b, rfl, .inr (.inl rfl)⟩
  · exact ⟨c, rfl, .inr (.inr (.inl rfl))⟩
  · exact ⟨d, rfl, .inr (.inr (.inr rfl))⟩
theorem ix2 (a b : Int) {g : Int} (h0 : 0 ≤ g) (h1 : g < 2) : ∃ w, ixD (.list [.int a, .int b]) (.int g) = .ok (.int w) ∧ (w = a ∨ w = b) := by
  have : g = 0 ∨ g = 1 := by omega
  rcases this with rfl | rfl
  · exact ⟨a, rfl, .inl rfl⟩
  · exact ⟨b, rfl, .inr rfl⟩
end E3
namespace H6
open PySem PySem.Spec PyProof.Rows L2 E3
def D_law_mixed : List D → Res D := fnD 3 2 (sSeq (sSet 2 (e2 modD (e2 mulD (e2 addD (e2 addD (e2 modD (eVar 0) (eC (.int 1000000000000000009))) (e2 mulD (eC (.int 7919)) (eVar 1))) (eC (.int 12345))) (eC (.int 48271))) (eC (.int 2305843009213693951))))
  (sSeq (sSet 2 (e2 modD (e2 mulD (eVar 2) (eVar 2)) (eC (.int 2305843009213693921))))
  (sRet (e2 fdivD (e2 modD (e2 mulD (e2 addD (eVar 2) (eVar 1)) (eC (.int 69621))) (eC (.int 2305843009213693951))) (eC (.int 8))))))
def C_law_deal_1 : SF := (qRet (xM (eLst (aCons (e2 subD (eVar 0) (e2 powD (eC (.int 10)) (eC (.int 18)))) aNil))))
def I_law_deal_1 : DS → Res (List D) := (fun σ => ((aCons (eC (.int 24)) aNil) σ).bind rng1)
def B_law_deal_1 : SF := (qSet 1 (xM (e2 addD (e2 mulD (eVar 1) (eC (.int 1152921504606846976))) (e2 modD (eCall D_law_mixed (aCons (eVar 0) (aCons (eVar 2) aNil))) (eC (.int 1152921504606846976))))))
def D_law_deal : List D → Res D := fnN 3 1 (sSeq (qIf (xB (tB (e2 geD (eVar 0) (e2 powD (eC (.int 10)) (eC (.int 18)))))) C_law_deal_1 sNil)
  (sSeq (qSet 1 (xM (eC (.int 0))))
  (sSeq (sFor I_law_deal_1 (gN 2)
  B_law_deal_1)
  (qRet (xM (eLst (aCons (eVar 1) aNil)))))))
def D_law_next : PF := fnP 3 2 (sSeq (qAsg (gT 2 (gsCons (gStore 0 0) (gsCons (gN 2) gsNil))) (xV (eCall divmodD (aCons (e2 ixD (eVar 0) (eC (.int 0))) (aCons (eVar 1) aNil)))))
  (qRet (xM (eVar 2))))
def C_law_step_1 : SF := (qRet (xTup (xCons (x2 subD (xPot 0 D_law_next (xCons (xM (eC (.int 2000001))) xNil)) (xM (eC (.int 1000000)))) (xCons (x2 ixD (xM (eLst (aCons (e1 negD (eC (.int 1000000))) (aCons (eC (.int 1000000)) aNil)))) (xPot 0 D_law_next (xCons (xM (eC (.int 2))) xNil))) xNil))))
def C_law_step_2 : SF := (qRet (xTup (xCons (xM (eC (.int 0))) (xCons (x2 mulD (x2 subD (xPot 0 D_law_next (xCons (xM (eC (.int 13))) xNil)) (xM (eC (.int 6)))) (xM (eVar 3))) xNil))))
def D_law_step : PF := fnP 4 4 (sSeq (qIf (xAnd (xB (tB (e2 eqD (eVar 1) (eC (.int 3))))) (xTB (x2 eqD (xPot 0 D_law_next (xCons (xM (eC (.int 3))) xNil)) (xM (eC (.int 0)))))) C_law_step_1 sNil)
  (sSeq (qIf (xB (tB (e2 eqD (eVar 1) (eC (.int 1))))) C_law_step_2 sNil)
  (qRet (xTup (xCons (x2 subD (x2 addD (xM (e2 ixD (eVar 2) (eC (.int 0)))) (xPot 0 D_law_next (xCons (xM (eC (.int 5))) xNil))) (xM (eC (.int 2)))) (xCons (x2 subD (x2 addD (xM (e2 ixD (eVar 2) (eC (.int 1)))) (xPot 0 D_law_next (xCons (xM (eC (.int 5))) xNil))) (xM (eC (.int 2)))) xNil))))))
def C_law_piece_1 : SF := (qSet 4 (xTup (xCons (x2 subD (xPot 0 D_law_next (xCons (xM (eC (.int 1999997))) xNil)) (xM (eC (.int 999998)))) (xCons (x2 subD (xPot 0 D_law_next (xCons (xM (eC (.int 1999997))) xNil)) (xM (eC (.int 999998)))) xNil))))
def I_law_piece_1 : DS → Res (List D) := (fun σ => ((aCons (eVar 2) aNil) σ).bind rng1)
def B_law_piece_1 : SF := (qPut 5 (xPot 0 D_law_step (xCons (xM (eVar 1)) (xCons (xM (eVar 4)) (xCons (xM (eVar 3)) xNil)))) (eC (.bool true)))
def T_law_piece_1 : SF := (sFreeze 5 (qRet (xM (eCall tupleD (aCons (eCall sortAnyD (aCons (eVar 5) aNil)) aNil)))))
def D_law_piece : PF := fnP 7 1 (sSeq (qSet 1 (xPot 0 D_law_next (xCons (xM (eC (.int 4))) xNil)))
  (sSeq (qSet 2 (x2 addD (xM (eC (.int 1))) (xPot 0 D_law_next (xCons (x2 ixD (xM (eLst (aCons (eC (.int 4)) (aCons (eC (.int 3)) (aCons (eC (.int 4)) (aCons (eC (.int 12)) aNil)))))) (xPot 0 D_law_next (xCons (xM (eC (.int 4))) xNil))) xNil))))
  (sSeq (qSet 3 (x2 ixD (xM (eLst (aCons (eC (.int 1)) (aCons (eC (.int 1)) (aCons (eC (.int 7)) (aCons (eC (.int 100003)) aNil)))))) (xPot 0 D_law_next (xCons (xM (eC (.int 4))) xNil))))
  (sSeq (qSet 4 (xM (eTup (aCons (eC (.int 0)) (aCons (eC (.int 0)) aNil)))))
  (sSeq (qIf (xB (tB (e2 eqD (eVar 1) (eC (.int 2))))) C_law_piece_1 sNil)
  (sSeq (sNew 5 (eC (.dict [])))
  (sSeq (sFor I_law_piece_1 (gN 6)
  B_law_piece_1)
  T_law_piece_1)))))))
def D_law_on : List D → Res D := fnD 4 2 (sRet (eLc (fun σ => ((eVar 0) σ).bind seqOf) (gT 2 (gsCons (gN 2) (gsCons (gN 3) gsNil))) [2, 3] tYesD (eTup (aCons (e2 addD (e2 ixD (eVar 1) (eC (.int 0))) (eVar 2)) (aCons (e2 addD (e2 ixD (eVar 1) (eC (.int 1))) (eVar 3)) aNil)))))
def I_law_shape_1 : DS → Res (List D) := (fun σ => ((eCall D_law_on (aCons (eVar 1) (aCons (eVar 6) aNil))) σ).bind seqOf)
def B_law_shape_1 : SF := (sSeq (qSet 6 (xTup (xCons (x2 addD (xM (e2 ixD (eVar 2) (eC (.int 0)))) (xPot 0 D_law_next (xCons (xM (eC (.int 4))) xNil))) (xCons (x2 addD (xM (e2 ixD (eVar 2) (eC (.int 1)))) (xPot 0 D_law_next (xCons (xM (eC (.int 4))) xNil))) xNil))))
  (sFor I_law_shape_1 (gN 7)
  (qPut 4 (xM (eVar 7)) (eC (.bool true)))))
def B_law_shape_2 : SF := (qPut 4 (xTup (xCons (x2 subD (x2 addD (xM (e2 ixD (eVar 2) (eC (.int 0)))) (xPot 0 D_law_next (xCons (xM (eC (.int 9))) xNil))) (xM (eC (.int 3)))) (xCons (x2 subD (x2 addD (xM (e2 ixD (eVar 2) (eC (.int 1)))) (xPot 0 D_law_next (xCons (xM (eC (.int 9))) xNil))) (xM (eC (.int 3)))) xNil))) (eC (.bool true)))
def C_law_shape_1 : SF := (qMut 8 popAtM (xCons (xPot 0 D_law_next (xCons (xV (eCall lenD (aCons (eVar 8) aNil))) xNil)) xNil))
def B_law_shape_3 : SF := (qIf (xB (tB (e2 neD (eVar 8) (eLst aNil)))) C_law_shape_1 sNil)
def T_law_shape_1 : SF := (sFreeze 8 (qRet (xM (eTup (aCons (eCall tupleD (aCons (eVar 8) aNil)) (aCons (eVar 3) aNil))))))
def T_law_shape_2 : SF := (sFreeze 4 (sSeq (sNew 8 (eCall sortAnyD (aCons (eVar 4) aNil)))
  (sSeq (qForR (xCons (xPot 0 D_law_next (xCons (xM (eC (.int 3))) xNil)) xNil) (gN 5)
  B_law_shape_3)
  T_law_shape_1)))
def T_law_shape_3 : SF := (sSeq (qForR (xCons (xPot 0 D_law_next (xCons (xM (eC (.int 6))) xNil)) xNil) (gN 5)
  B_law_shape_2)
  T_law_shape_2)
def D_law_shape : PF := fnP 9 3 (sSeq (qSet 3 (x2 eqD (xPot 0 D_law_next (xCons (xM (eC (.int 3))) xNil)) (xM (eC (.int 0)))))
  (sSeq (sNew 4 (eC (.dict [])))
  (sSeq (qForR (xCons (xPot 0 D_law_next (xCons (xM (e2 addD (eC (.int 3)) (e2 mulD (eC (.int 2)) (eCall intD (aCons (e2 ltD (eCall lenD (aCons (eVar 1) aNil)) (eC (.int 7))) aNil))))) xNil)) xNil) (gN 5)
  B_law_shape_1)
  T_law_shape_3)))
def C_law_lead_1 : SF := (qRet (xM (eTup (aCons (eC (.int 0)) (aCons (eC (.int 0)) aNil)))))
def D_law_lead : PF := fnP 2 1 (sSeq (qIf (xTB (x2 gtD (xPot 0 D_law_next (xCons (xM (eC (.int 3))) xNil)) (xM (eC (.int 0))))) C_law_lead_1 sNil)
  (sSeq (qSet 1 (xM (eC (.int 999900000000))))
  (qRet (xTup (xCons (x2 subD (xPot 0 D_law_next (xCons (xM (e2 addD (e2 mulD (eC (.int 2)) (eVar 1)) (eC (.int 1)))) xNil)) (xM (eVar 1))) (xCons (x2 subD (xPot 0 D_law_next (xCons (xM (e2 addD (e2 mulD (eC (.int 2)) (eVar 1)) (eC (.int 1)))) xNil)) (xM (eVar 1))) xNil))))))

section
local macro_rules | `(tactic| walk_at "ev") => `(tactic| try simp (disch := first | decide | decide +kernel | omega) only [fnD, startF, endF, sSeq, sAsg, sSet, sSetV, sAsgV, sIf, sRet, sNew, sNewV, sMut, sMutV, sFor, sForR, sFreeze, sNil, sExpr, optK, thenR_ok, thenR_exc, thenR_stuck,
  view, mask, E3.eVar_zero, E3.eVar_succ, eC, e1, e2, eCall, eTup, eLst, eSl, oNone, oSome, eAnd, eOr, eIf, E3.tAnd, E3.tOr, E3.tNot, E3.tB, asB, notD, aNil, aCons, Res.bind_ok, Res.bind_exc, Res.bind_stuck,
  gT, gsCons, gsNil, gN, tupD, lstD, Slot.dat, Slot.shd, List.length_cons, List.length_nil, List.map_cons, List.map_nil, List.replicate, List.append_nil, List.cons_append, List.nil_append, Option.map_some, Option.map_none, Option.bind_some, Option.bind_none,
  List.getElem?_cons_zero, List.getElem?_cons_succ, List.set_cons_zero, List.set_cons_succ, Nat.reduceAdd, Nat.reduceSub, Nat.reduceEqDiff, if_true, if_false, ite_true, ite_false, reduceIte, decide_true, decide_false, reduceCtorEq, Bool.not_true, Bool.not_false, Bool.false_eq_true, Bool.true_eq_false, Bool.or_true, Bool.true_or, Bool.false_or, Bool.or_false, Bool.and_true, Bool.and_false, Bool.true_and, Bool.false_and, addI, subI, ltI, leI, gtI, geI, eqI, neI, E3.negI, ix_cell0, ix_cell1, E3.le0, E3.le1, E3.le2, E3.le3, E3.le4, E3.le5, E3.le6, beq_self_eq_true, Int.reduceBEq, E3.divmodI, E3.modI, E3.fdivI, E3.powL, E3.mulLL, E3.isi_bool_none, E3.isi_bool_bool, E3.isi_bool_int, E3.isi_bool_str, E3.isi_bool_list, E3.isi_bool_tuple, E3.isi_int_none, E3.isi_int_bool, E3.isi_int_int, E3.isi_int_str, E3.isi_int_list, E3.isi_int_tuple, E3.isi_str_none, E3.isi_str_bool, E3.isi_str_int, E3.isi_str_str, E3.isi_str_list, E3.isi_str_tuple, E3.isi_list_none, E3.isi_list_bool, E3.isi_list_int, E3.isi_list_str, E3.isi_list_list, E3.isi_list_tuple, E3.isi_tuple_none, E3.isi_tuple_bool, E3.isi_tuple_int, E3.isi_tuple_str, E3.isi_tuple_list, E3.isi_tuple_tuple, E3.isN_none, E3.ntN_none, E3.isN_bool, E3.ntN_bool, E3.isN_int, E3.ntN_int, E3.isN_str, E3.ntN_str, E3.isN_list, E3.ntN_list, E3.isN_tuple, E3.ntN_tuple, E3.len_list, E3.len_tup, E3.seq_list, E3.seq_tup, E3.tup_list, E3.tup_tup, E3.lst_list, E3.lst_tup, xM, xV, xB, xTB, x2, xAnd, xNil, xCons, xTup, xLst, xCall, xSl, xPot, ownX, potK, XR.bind_ok, XR.bind_exc, XR.bind_stuck, XR.of_ok, XR.of_exc, XR.of_stuck, thenX_ok, thenX_exc, thenX_stuck, qSet, qRet, qIf, qAsg, qForR, qFor, E3.flatR_i, E3.flatR_b, E3.flatR_ii, E3.flatR_c, fnP, startP, endP, fnN, endN, E3.ix_lst0])
theorem next_ok {n m : Int} (hm : 0 < m) (hl : m.natAbs.log2 < 9000) : D_law_next [.int n] [.int m] = .ok (.int (n % m), [.int (n / m)]) := by
  unfold D_law_next
  walk_at "ev"
  rfl
theorem nextI {n m : Int} (h : decide (0 < m ∧ m.natAbs.log2 < 9000) = true) : D_law_next [.int n] [.int m] = .ok (.int (n % m), [.int (n / m)]) :=
  next_ok (of_decide_eq_true h).1 (of_decide_eq_true h).2
theorem mixed_ok (c : Int) (k : Nat) (hk : k < 24) : ∃ m : Int, 0 ≤ m ∧ D_law_mixed [.int c, .int (k : Nat)] = .ok (.int m) := by
  have hkI : (0 : Int) ≤ (k : Nat) ∧ ((k : Nat) : Int) < 24 := by omega
  generalize ((k : Nat) : Int) = j at hkI ⊢
  have r1 := Int.emod_nonneg c (show (1000000000000000009 : Int) ≠ 0 by decide)
  have r2 := Int.emod_lt_of_pos c (show (0 : Int) < 1000000000000000009 by decide)
  unfold D_law_mixed
  walk_at "ev"
  rw [mulB 20 8 (by omega) (by omega) (by decide)]
  walk_at "ev"
  generalize c % 1000000000000000009 = z at r1 r2 ⊢
  rw [mulB 70 20 (by omega) (by omega) (by decide)]
  walk_at "ev"
  have r3 := Int.emod_nonneg ((z + 7919 * j + 12345) * 48271) (show (2305843009213693951 : Int) ≠ 0 by decide)
  have r4 := Int.emod_lt_of_pos ((z + 7919 * j + 12345) * 48271) (show (0 : Int) < 2305843009213693951 by decide)
  generalize (z + 7919 * j + 12345) * 48271 % 2305843009213693951 = y at r3 r4 ⊢
  rw [mulB 70 70 (by omega) (by omega) (by decide)]
  walk_at "ev"
  have r5 := Int.emod_nonneg (y * y) (show (2305843009213693921 : Int) ≠ 0 by decide)
  have r6 := Int.emod_lt_of_pos (y * y) (show (0 : Int) < 2305843009213693921 by decide)
  generalize y * y % 2305843009213693921 = x at r5 r6 ⊢
  rw [mulB 70 20 (by omega) (by omega) (by decide)]
  walk_at "ev"
  have r7 := Int.emod_nonneg ((x + j) * 69621) (show (2305843009213693951 : Int) ≠ 0 by decide)
  exact ⟨_, by omega, rfl⟩
theorem deal_turn (c great : Int) (k b : Nat) (hk : k < 24) (hg : 0 ≤ great ∧ great < 2 ^ b) (hb : b + 61 < 999000) : ∃ great' : Int, (0 ≤ great' ∧ great' < 2 ^ (b + 61)) ∧
    B_law_deal_1 [some (.sh (.int c)), some (.sh (.int great)), some (.sh (.int (k : Nat)))] = .ok .nx [some (.sh (.int c)), some (.sh (.int great')), some (.sh (.int (k : Nat)))] := by
  obtain ⟨m, h0, e⟩ := mixed_ok c k hk
  unfold B_law_deal_1
  walk_at "ev"
  have hp : (0 : Int) < 2 ^ b := Int.pow_pos (by decide)
  rw [mulB b 61 (by omega) (by omega) (by omega)]
  walk_at "ev"
  rw [e]
  walk_at "ev"
  have r1 := Int.emod_nonneg m (show (1152921504606846976 : Int) ≠ 0 by decide)
  have r2 := Int.emod_lt_of_pos m (show (0 : Int) < 1152921504606846976 by decide)
  generalize m % 1152921504606846976 = x at r1 r2 ⊢
  have e2 : (2 : Int) ^ (b + 61) = 2 ^ b * 2305843009213693952 := by rw [Int.pow_add]; rfl
  exact ⟨_, ⟨by omega, by omega⟩, rfl⟩
theorem deal_ok (c : Int) : ∃ n : Int, 0 ≤ n ∧ D_law_deal [.int c] = .ok (.list [.int n]) := by
  by_cases hc : (1000000000000000000 : Int) ≤ c
  · refine ⟨c - 10 ^ 18, by omega, ?_⟩
    unfold D_law_deal C_law_deal_1
    walk_at "ev"
    have e : decide ((10 : Int) ^ Int.toNat 18 ≤ c) = true := decide_eq_true (by show (10 : Int) ^ 18 ≤ c; omega)
    rw [e]
    walk_at "ev"
    rfl
  · obtain ⟨σ', e, great, x2, hg, rfl⟩ := forS_pre (p := gN 2) (body := B_law_deal_1) (g := fun k : Nat => PyData.int (k : Nat))
      (Inv := fun pre σ => ∃ (great : Int) (x2 : Option Slot), (0 ≤ great ∧ great < 2 ^ (61 * pre.length)) ∧
        σ = [some (.sh (.int c)), some (.sh (.int great)), x2]) (List.range 24)
      [some (.sh (.int c)), some (.sh (.int 0)), none]
      ⟨0, none, ⟨by omega, by decide⟩, rfl⟩ (by
      rintro pre k post σ he ⟨great, x2, hg, rfl⟩
      have hk : k < 24 := List.mem_range.mp (by rw [he]; simp)
      have hl : pre.length < 24 := by
        have := congrArg List.length he
        rw [List.length_range, List.length_append, List.length_cons] at this
        omega
      obtain ⟨great', h1, h2⟩ := deal_turn c great k (61 * pre.length) hk hg (by omega)
      refine ⟨_, _, rfl, .inl h2, great', some (.sh (.int (k : Nat))), ⟨h1.1, ?_⟩, rfl⟩
      rw [List.length_append, List.length_singleton, Nat.mul_add, Nat.mul_one]
      exact h1.2)
    refine ⟨great, hg.1, ?_⟩
    have it : ∀ y : DS, I_law_deal_1 y = .ok ((List.range 24).map fun k : Nat => PyData.int (k : Nat)) := fun y => rng1_nat (m := 24) (by decide) (by decide)
    unfold D_law_deal
    walk_at "ev"
    have e1 : decide ((10 : Int) ^ Int.toNat 18 ≤ c) = false := decide_eq_false (by show ¬ (10 : Int) ^ 18 ≤ c; omega)
    rw [e1]
    walk_at "ev"
    rw [it]
    walk_at "ev"
    rw [e]
    walk_at "ev"
end
section
local macro_rules | `(tactic| walk_at "ev") => `(tactic| try simp (disch := first | decide | decide +kernel | omega) only [fnD, startF, endF, sSeq, sAsg, sSet, sSetV, sAsgV, sIf, sRet, sNew, sNewV, sMut, sMutV, sFor, sForR, sFreeze, sNil, sExpr, optK, thenR_ok, thenR_exc, thenR_stuck,
  view, mask, E3.eVar_zero, E3.eVar_succ, eC, e1, e2, eCall, eTup, eLst, eSl, oNone, oSome, eAnd, eOr, eIf, E3.tAnd, E3.tOr, E3.tNot, E3.tB, asB, notD, aNil, aCons, Res.bind_ok, Res.bind_exc, Res.bind_stuck,
  gT, gsCons, gsNil, gN, tupD, lstD, Slot.dat, Slot.shd, List.length_cons, List.length_nil, List.map_cons, List.map_nil, List.replicate, List.append_nil, List.cons_append, List.nil_append, Option.map_some, Option.map_none, Option.bind_some, Option.bind_none,
  List.getElem?_cons_zero, List.getElem?_cons_succ, List.set_cons_zero, List.set_cons_succ, Nat.reduceAdd, Nat.reduceSub, Nat.reduceEqDiff, if_true, if_false, ite_true, ite_false, reduceIte, decide_true, decide_false, reduceCtorEq, Bool.not_true, Bool.not_false, Bool.false_eq_true, Bool.true_eq_false, Bool.or_true, Bool.true_or, Bool.false_or, Bool.or_false, Bool.and_true, Bool.and_false, Bool.true_and, Bool.false_and, addI, subI, ltI, leI, gtI, geI, eqI, neI, E3.negI, ix_cell0, ix_cell1, E3.le0, E3.le1, E3.le2, E3.le3, E3.le4, E3.le5, E3.le6, beq_self_eq_true, Int.reduceBEq, E3.divmodI, E3.modI, E3.fdivI, E3.powL, E3.mulLL, E3.isi_bool_none, E3.isi_bool_bool, E3.isi_bool_int, E3.isi_bool_str, E3.isi_bool_list, E3.isi_bool_tuple, E3.isi_int_none, E3.isi_int_bool, E3.isi_int_int, E3.isi_int_str, E3.isi_int_list, E3.isi_int_tuple, E3.isi_str_none, E3.isi_str_bool, E3.isi_str_int, E3.isi_str_str, E3.isi_str_list, E3.isi_str_tuple, E3.isi_list_none, E3.isi_list_bool, E3.isi_list_int, E3.isi_list_str, E3.isi_list_list, E3.isi_list_tuple, E3.isi_tuple_none, E3.isi_tuple_bool, E3.isi_tuple_int, E3.isi_tuple_str, E3.isi_tuple_list, E3.isi_tuple_tuple, E3.isN_none, E3.ntN_none, E3.isN_bool, E3.ntN_bool, E3.isN_int, E3.ntN_int, E3.isN_str, E3.ntN_str, E3.isN_list, E3.ntN_list, E3.isN_tuple, E3.ntN_tuple, E3.len_list, E3.len_tup, E3.seq_list, E3.seq_tup, E3.tup_list, E3.tup_tup, E3.lst_list, E3.lst_tup, xM, xV, xB, xTB, x2, xAnd, xNil, xCons, xTup, xLst, xCall, xSl, xPot, ownX, potK, XR.bind_ok, XR.bind_exc, XR.bind_stuck, XR.of_ok, XR.of_exc, XR.of_stuck, thenX_ok, thenX_exc, thenX_stuck, qSet, qRet, qIf, qAsg, qForR, qFor, E3.flatR_i, E3.flatR_b, E3.flatR_ii, E3.flatR_c, fnP, startP, endP, fnN, endN, E3.ix_lst0, H6.nextI])
theorem emod5 {n : Int} (m : Int) (h : 0 < m) : 0 ≤ n % m ∧ n % m < m := ⟨Int.emod_nonneg _ (by omega), Int.emod_lt_of_pos _ h⟩
theorem step_ok (n w s : Int) (lead : Int × Int) (hn : 0 ≤ n) (hs : 0 ≤ s ∧ s ≤ 100003) (hl : (-999998 ≤ lead.1 ∧ lead.1 ≤ 999998) ∧ (-999998 ≤ lead.2 ∧ lead.2 ≤ 999998)) :
    PQ (D_law_step [.int n] [.int w, cellD lead, .int s]) fun d => ∃ p, inM p ∧ d = cellD p := by
  obtain ⟨a, b⟩ := lead
  show PQ (D_law_step [.int n] [.int w, .tuple [.int a, .int b], .int s]) _
  have h3 : 0 ≤ n / 3 := Int.ediv_nonneg hn (by decide)
  have last : ∀ m : Int, 0 ≤ m → inM (a + m % 5 - 2, b + m / 5 % 5 - 2) := fun m hm => by
    have := emod5 (n := m) 5 (by decide)
    have := emod5 (n := m / 5) 5 (by decide)
    simp only at hl
    exact ⟨⟨by show _ ≤ _ - _; omega, by show _ - _ ≤ _; omega⟩, ⟨by show _ ≤ _ - _; omega, by show _ - _ ≤ _; omega⟩⟩
  by_cases hw : w = 3
  · subst hw
    by_cases hr : n % 3 = 0
    · have h4 : 0 ≤ n / 3 / 2000001 := Int.ediv_nonneg h3 (by decide)
      have r1 := emod5 (n := n / 3) 2000001 (by decide)
      have r2 := emod5 (n := n / 3 / 2000001) 2 (by decide)
      obtain ⟨v, e, hv⟩ := ix2 (-1000000) 1000000 r2.1 r2.2
      have hb : (n % 3 == 0) = true := by simpa using hr
      unfold D_law_step C_law_step_1 C_law_step_2
      walk_at "ev"
      rw [hb]
      walk_at "ev"
      rw [e]
      walk_at "ev"
      refine PQ.ok (Int.ediv_nonneg h4 (by decide)) ⟨(n / 3 % 2000001 - 1000000, v), ⟨⟨by show _ ≤ _ - _; omega, by show _ - _ ≤ _; omega⟩, ⟨by show _ ≤ v; omega, by show v ≤ _; omega⟩⟩, rfl⟩
    · have hb : (n % 3 == 0) = false := by simpa using hr
      unfold D_law_step C_law_step_1 C_law_step_2
      walk_at "ev"
      rw [hb]
      walk_at "ev"
      exact PQ.ok (Int.ediv_nonneg (Int.ediv_nonneg h3 (by decide)) (by decide)) ⟨_, last (n / 3) h3, rfl⟩
  · have hb3 : (w == 3) = false := by simpa using hw
    by_cases hw1 : w = 1
    · subst hw1
      have r1 := emod5 (n := n) 13 (by decide)
      unfold D_law_step C_law_step_1 C_law_step_2
      walk_at "ev"
      rw [mulB 10 20 (by omega) (by omega) (by decide)]
      walk_at "ev"
      refine PQ.ok (Int.ediv_nonneg hn (by decide)) ⟨(0, (n % 13 - 6) * s), ⟨⟨by show (-1000000 : Int) ≤ 0; decide, by show (0 : Int) ≤ 1000000; decide⟩, ?_⟩, rfl⟩
      generalize n % 13 = g at r1 ⊢
      have h1 : (g - 6) * s ≤ 6 * s := Int.mul_le_mul_of_nonneg_right (by omega) hs.1
      have h2 : (-6) * s ≤ (g - 6) * s := Int.mul_le_mul_of_nonneg_right (by omega) hs.1
      exact ⟨by show _ ≤ (g - 6) * s; omega, by show (g - 6) * s ≤ _; omega⟩
    · have hb1 : (w == 1) = false := by simpa using hw1
      unfold D_law_step C_law_step_1 C_law_step_2
      walk_at "ev"
      rw [hb3]
      walk_at "ev"
      rw [hb1]
      walk_at "ev"
      exact PQ.ok (Int.ediv_nonneg (Int.ediv_nonneg hn (by decide)) (by decide)) ⟨_, last n hn, rfl⟩
theorem piece_turn (n w m s : Int) (lead : Int × Int) (qs : List (Int × Int)) (x6 : Option Slot) (hn : 0 ≤ n) (hs : 0 ≤ s ∧ s ≤ 100003) (hl : (-999998 ≤ lead.1 ∧ lead.1 ≤ 999998) ∧ (-999998 ≤ lead.2 ∧ lead.2 ≤ 999998)) (hq : qs.length < 1000) :
    ∃ (n' : Int) (p : Int × Int), 0 ≤ n' ∧ inM p ∧ B_law_piece_1 [some (.ow (.list [.int n])), some (.sh (.int w)), some (.sh (.int m)), some (.sh (.int s)), some (.sh (cellD lead)), some (.ow (.dict (dctT qs))), x6] =
      .ok .nx [some (.ow (.list [.int n'])), some (.sh (.int w)), some (.sh (.int m)), some (.sh (.int s)), some (.sh (cellD lead)), some (.ow (.dict (dctT (addC qs p)))), x6] := by
  obtain ⟨d, n', e, hn', p, hp, rfl⟩ := step_ok n w s lead hn hs hl
  refine ⟨n', p, hn', hp, ?_⟩
  unfold B_law_piece_1
  simp only [qPut, ownD, List.getElem?_cons_zero, List.getElem?_cons_succ]
  walk_at "ev"
  rw [e]
  walk_at "ev"
  rw [putS_dct (by rw [sizeLine_eq]; omega)]
  rfl
theorem piece_ok (n : Int) (hn : 0 ≤ n) : PQ (D_law_piece [.int n] []) fun d => ∃ ps : List (Int × Int), ps ≠ [] ∧ ps.length ≤ 12 ∧ ps.Pairwise ltP ∧ (∀ p ∈ ps, inM p) ∧ d = tupC ps := by
  -- behind the lead
  have loop : ∀ (n w m s : Int) (lead : Int × Int), 0 ≤ n → 0 ≤ m → m < 12 → (0 ≤ s ∧ s ≤ 100003) → ((-999998 ≤ lead.1 ∧ lead.1 ≤ 999998) ∧ (-999998 ≤ lead.2 ∧ lead.2 ≤ 999998)) →
      ∃ (n' : Int) (ps : List (Int × Int)) (x6 : Option Slot), 0 ≤ n' ∧ ps ≠ [] ∧ ps.length ≤ 12 ∧ ps.Nodup ∧ (∀ p ∈ ps, inM p) ∧
        forS (gN 6) B_law_piece_1 ((List.range (1 + m).toNat).map fun k : Nat => PyData.int (k : Nat)) [some (.ow (.list [.int n])), some (.sh (.int w)), some (.sh (.int (1 + m))), some (.sh (.int s)), some (.sh (cellD lead)), some (.ow (.dict [])), none]
          = .ok .nx [some (.ow (.list [.int n'])), some (.sh (.int w)), some (.sh (.int (1 + m))), some (.sh (.int s)), some (.sh (cellD lead)), some (.ow (.dict (dctT ps))), x6] := by
    intro n w m s lead hn h0 h1 hs hl
    obtain ⟨σ', e, n', qs, x6, hn', hne, hql, hnd, hin, rfl⟩ := forS_pre (p := gN 6) (body := B_law_piece_1) (g := fun k : Nat => PyData.int (k : Nat))
      (Inv := fun pre σ => ∃ (n' : Int) (qs : List (Int × Int)) (x6 : Option Slot), 0 ≤ n' ∧ (pre ≠ [] → qs ≠ []) ∧ qs.length ≤ pre.length ∧ qs.Nodup ∧ (∀ p ∈ qs, inM p) ∧
        σ = [some (.ow (.list [.int n'])), some (.sh (.int w)), some (.sh (.int (1 + m))), some (.sh (.int s)), some (.sh (cellD lead)), some (.ow (.dict (dctT qs))), x6]) (List.range (1 + m).toNat)
      [some (.ow (.list [.int n])), some (.sh (.int w)), some (.sh (.int (1 + m))), some (.sh (.int s)), some (.sh (cellD lead)), some (.ow (.dict [])), none]
      ⟨n, [], none, hn, fun z => absurd rfl z, Nat.le_refl _, List.nodup_nil, (fun _ z => nomatch z), rfl⟩ (by
      rintro pre k post σ he ⟨n', qs, x6, hn', hne, hql, hnd, hin, rfl⟩
      have hl2 : pre.length < 12 := by
        have := congrArg List.length he
        rw [List.length_range, List.length_append, List.length_cons] at this
        omega
      obtain ⟨n2, p, g1, g2, g3⟩ := piece_turn n' w (1 + m) s lead qs (some (.sh (.int (k : Nat)))) hn' hs hl (by omega)
      refine ⟨_, _, rfl, .inl g3, n2, addC qs p, _, g1, fun _ => addC_ne _ _, ?_, nd_addC hnd, fun q hq => ?_, rfl⟩
      · rw [List.length_append, List.length_singleton]
        exact Nat.le_trans (len_addC _ _) (by omega)
      · rcases mem_addC.mp hq with z | z
        · exact hin q z
        · rw [z]; exact g2)
    rw [List.length_range] at hql
    exact ⟨n', qs, x6, hn', hne (by
      intro z
      have := congrArg List.length z
      rw [List.length_range, List.length_nil] at this
      omega), by omega, hnd, hin, e⟩
  have fin : ∀ (n w m s : Int) (lead : Int × Int), 0 ≤ n → 0 ≤ m → m < 12 → (0 ≤ s ∧ s ≤ 100003) → ((-999998 ≤ lead.1 ∧ lead.1 ≤ 999998) ∧ (-999998 ≤ lead.2 ∧ lead.2 ≤ 999998)) →
      PQ (endP (sSeq (sNew 5 (eC (.dict []))) (sSeq (sFor I_law_piece_1 (gN 6) B_law_piece_1) T_law_piece_1) [some (.ow (.list [.int n])), some (.sh (.int w)), some (.sh (.int (1 + m))), some (.sh (.int s)), some (.sh (cellD lead)), none, none]))
        fun d => ∃ ps : List (Int × Int), ps ≠ [] ∧ ps.length ≤ 12 ∧ ps.Pairwise ltP ∧ (∀ p ∈ ps, inM p) ∧ d = tupC ps := by
    intro n w m s lead hn h0 h1 hs hl
    obtain ⟨n', ps, x6, hn', hne, hpl, hnd, hin, e⟩ := loop n w m s lead hn h0 h1 hs hl
    have it : ∀ a b c d e f : Option D, I_law_piece_1 [a, b, some (.int (1 + m)), c, d, e, f] = .ok ((List.range (1 + m).toNat).map fun k : Nat => PyData.int (k : Nat)) := fun _ _ _ _ _ _ => rng1_nat (m := 1 + m) (by omega) (by omega)
    unfold T_law_piece_1
    walk_at "ev"
    rw [it]
    walk_at "ev"
    rw [e]
    walk_at "ev"
    rw [sort_dct hnd]
    walk_at "ev"
    exact PQ.ok hn' ⟨srt ps, srt_ne hne, Nat.le_trans (srt_len _) hpl, pw_srt _, fun p hp => hin p (mem_srt.mp hp), rfl⟩
  have h4 : 0 ≤ n / 4 := Int.ediv_nonneg hn (by decide)
  have h5 : 0 ≤ n / 4 / 4 := Int.ediv_nonneg h4 (by decide)
  obtain ⟨mm, e1, hmm⟩ := ix4 4 3 4 12 (emod5 (n := n / 4) 4 (by decide)).1 (emod5 (n := n / 4) 4 (by decide)).2
  have hm0 : 0 < mm ∧ mm ≤ 12 := by omega
  have e2 := next_ok (n := n / 4 / 4) hm0.1 (log2_lt 10 (by omega) (by decide) hm0.1)
  have r2 := emod5 (n := n / 4 / 4) mm hm0.1
  have h6 : 0 ≤ n / 4 / 4 / mm := Int.ediv_nonneg h5 (by omega)
  have h7 : 0 ≤ n / 4 / 4 / mm / 4 := Int.ediv_nonneg h6 (by decide)
  obtain ⟨s, e3, hs⟩ := ix4 1 1 7 100003 (emod5 (n := n / 4 / 4 / mm) 4 (by decide)).1 (emod5 (n := n / 4 / 4 / mm) 4 (by decide)).2
  by_cases hw : n % 4 = 2
  · have hb : (n % 4 == 2) = true := by simpa using hw
    have r5 := emod5 (n := n / 4 / 4 / mm / 4) 1999997 (by decide)
    have r6 := emod5 (n := n / 4 / 4 / mm / 4 / 1999997) 1999997 (by decide)
    have f := fin (n / 4 / 4 / mm / 4 / 1999997 / 1999997) (n % 4) (n / 4 / 4 % mm) s (n / 4 / 4 / mm / 4 % 1999997 - 999998, n / 4 / 4 / mm / 4 / 1999997 % 1999997 - 999998)
      (Int.ediv_nonneg (Int.ediv_nonneg h7 (by decide)) (by decide)) r2.1 (by omega) (by omega) ⟨⟨by show _ ≤ _ - _; omega, by show _ - _ ≤ _; omega⟩, ⟨by show _ ≤ _ - _; omega, by show _ - _ ≤ _; omega⟩⟩
    generalize hg : sSeq (sNew 5 (eC (.dict []))) (sSeq (sFor I_law_piece_1 (gN 6) B_law_piece_1) T_law_piece_1) = rest at f
    unfold D_law_piece C_law_piece_1
    rw [hg]
    walk_at "ev"
    rw [e1]
    walk_at "ev"
    rw [e2]
    walk_at "ev"
    rw [e3]
    walk_at "ev"
    rw [hb]
    walk_at "ev"
    exact f
  · have hb : (n % 4 == 2) = false := by simpa using hw
    have f := fin (n / 4 / 4 / mm / 4) (n % 4) (n / 4 / 4 % mm) s (0, 0)
      h7 r2.1 (by omega) (by omega) ⟨⟨by decide, by decide⟩, ⟨by decide, by decide⟩⟩
    generalize hg : sSeq (sNew 5 (eC (.dict []))) (sSeq (sFor I_law_piece_1 (gN 6) B_law_piece_1) T_law_piece_1) = rest at f
    unfold D_law_piece C_law_piece_1
    rw [hg]
    walk_at "ev"
    rw [e1]
    walk_at "ev"
    rw [e2]
    walk_at "ev"
    rw [e3]
    walk_at "ev"
    rw [hb]
    walk_at "ev"
    exact f
theorem lead_ok (n : Int) (hn : 0 ≤ n) : PQ (D_law_lead [.int n] []) fun d => ∃ p, d = cellD p := by
  have h3 : 0 ≤ n / 3 := Int.ediv_nonneg hn (by decide)
  by_cases h : 0 < n % 3
  · unfold D_law_lead C_law_lead_1
    walk_at "ev"
    rw [decide_eq_true h]
    walk_at "ev"
    exact PQ.ok h3 ⟨(0, 0), rfl⟩
  · unfold D_law_lead C_law_lead_1
    walk_at "ev"
    rw [decide_eq_false h]
    walk_at "ev"
    exact PQ.ok (Int.ediv_nonneg (Int.ediv_nonneg h3 (by decide)) (by decide)) ⟨(n / 3 % (2 * 999900000000 + 1) - 999900000000, n / 3 / (2 * 999900000000 + 1) % (2 * 999900000000 + 1) - 999900000000), rfl⟩
theorem on_ok (P : List (Int × Int)) (c : Int × Int) (hl : P.length ≤ 1000) : D_law_on [tupC P, cellD c] = .ok (.list ((P.map fun s => plusC c s).map cellD)) := by
  have lc : eLc (fun σ => ((eVar 0) σ).bind seqOf) (gT 2 (gsCons (gN 2) (gsCons (gN 3) gsNil))) [2, 3] tYesD (eTup (aCons (e2 addD (e2 ixD (eVar 1) (eC (.int 0))) (eVar 2)) (aCons (e2 addD (e2 ixD (eVar 1) (eC (.int 1))) (eVar 3)) aNil))) [some (tupC P), some (cellD c), none, none] = .ok (.list ((P.map fun s => plusC c s).map cellD)) := by
    unfold eLc
    show (Res.bind (Res.ok (P.map cellD)) _) = _
    rw [Res.bind_ok, if_pos (by rw [List.length_map, sizeLine_eq]; omega), List.map_map, lc_of (g := cellD) (q := fun p => cellD (plusC c p)) P fun p _ => ⟨_, rfl, rfl, rfl⟩]
    rfl
  unfold D_law_on
  walk_at "ev"
  rw [lc]
  walk_at "ev"
end
end H6

namespace H6
open PySem PySem.Spec PyProof.Rows L2 E3
local macro_rules | `(tactic| walk_at "ev") => `(tactic| try simp (disch := first | decide | decide +kernel | omega) only [fnD, startF, endF, sSeq, sAsg, sSet, sSetV, sAsgV, sIf, sRet, sNew, sNewV, sMut, sMutV, sFor, sForR, sFreeze, sNil, sExpr, optK, thenR_ok, thenR_exc, thenR_stuck,
  view, mask, E3.eVar_zero, E3.eVar_succ, eC, e1, e2, eCall, eTup, eLst, eSl, oNone, oSome, eAnd, eOr, eIf, E3.tAnd, E3.tOr, E3.tNot, E3.tB, asB, notD, aNil, aCons, Res.bind_ok, Res.bind_exc, Res.bind_stuck,
  gT, gsCons, gsNil, gN, tupD, lstD, Slot.dat, Slot.shd, List.length_cons, List.length_nil, List.map_cons, List.map_nil, List.replicate, List.append_nil, List.cons_append, List.nil_append, Option.map_some, Option.map_none, Option.bind_some, Option.bind_none,
  List.getElem?_cons_zero, List.getElem?_cons_succ, List.set_cons_zero, List.set_cons_succ, Nat.reduceAdd, Nat.reduceSub, Nat.reduceEqDiff, if_true, if_false, ite_true, ite_false, reduceIte, decide_true, decide_false, reduceCtorEq, Bool.not_true, Bool.not_false, Bool.false_eq_true, Bool.true_eq_false, Bool.or_true, Bool.true_or, Bool.false_or, Bool.or_false, Bool.and_true, Bool.and_false, Bool.true_and, Bool.false_and, addI, subI, ltI, leI, gtI, geI, eqI, neI, E3.negI, ix_cell0, ix_cell1, E3.le0, E3.le1, E3.le2, E3.le3, E3.le4, E3.le5, E3.le6, beq_self_eq_true, Int.reduceBEq, E3.divmodI, E3.modI, E3.fdivI, E3.powL, E3.mulLL, E3.isi_bool_none, E3.isi_bool_bool, E3.isi_bool_int, E3.isi_bool_str, E3.isi_bool_list, E3.isi_bool_tuple, E3.isi_int_none, E3.isi_int_bool, E3.isi_int_int, E3.isi_int_str, E3.isi_int_list, E3.isi_int_tuple, E3.isi_str_none, E3.isi_str_bool, E3.isi_str_int, E3.isi_str_str, E3.isi_str_list, E3.isi_str_tuple, E3.isi_list_none, E3.isi_list_bool, E3.isi_list_int, E3.isi_list_str, E3.isi_list_list, E3.isi_list_tuple, E3.isi_tuple_none, E3.isi_tuple_bool, E3.isi_tuple_int, E3.isi_tuple_str, E3.isi_tuple_list, E3.isi_tuple_tuple, E3.isN_none, E3.ntN_none, E3.isN_bool, E3.ntN_bool, E3.isN_int, E3.ntN_int, E3.isN_str, E3.ntN_str, E3.isN_list, E3.ntN_list, E3.isN_tuple, E3.ntN_tuple, E3.len_list, E3.len_tup, E3.seq_list, E3.seq_tup, E3.tup_list, E3.tup_tup, E3.lst_list, E3.lst_tup, xM, xV, xB, xTB, x2, xAnd, xNil, xCons, xTup, xLst, xCall, xSl, xPot, ownX, potK, XR.bind_ok, XR.bind_exc, XR.bind_stuck, XR.of_ok, XR.of_exc, XR.of_stuck, thenX_ok, thenX_exc, thenX_stuck, qSet, qRet, qIf, qAsg, qForR, qFor, E3.flatR_i, E3.flatR_b, E3.flatR_ii, E3.flatR_c, fnP, startP, endP, fnN, endN, E3.ix_lst0, H6.nextI])

theorem ne_nilL (l : List (Int × Int)) : neD (.list (l.map cellD)) (.list []) = .ok (.bool (!decide (l = []))) := by
  unfold neD
  rw [shaped_lst, show SeqAt.shaped (.list []) = true from shaped_lst []]
  show Res.ok (PyData.bool (!PyData.eqvAll (l.map cellD) (([] : List (Int × Int)).map cellD))) = _
  rw [eqv_cells]
theorem erase_map {α β : Type} (f : α → β) : ∀ (l : List α) (i : Nat), (l.map f).eraseIdx i = (l.eraseIdx i).map f
  | [], _ => rfl
  | _ :: _, 0 => rfl
  | a :: l, i + 1 => by
    show f a :: (l.map f).eraseIdx i = f a :: (l.eraseIdx i).map f
    rw [erase_map f l i]
theorem pop_map {α : Type} (f : α → D) (l : List α) {k : Int} (h0 : 0 ≤ k) (h1 : k < (l.length : Int)) (hl : l.length ≤ 10000) : ∃ d, popAtM (l.map f) [.int k] = some (d, (l.eraseIdx k.toNat).map f) := by
  have hk : k.toNat < l.length := by omega
  refine ⟨f l[k.toNat], ?_⟩
  have e : seqIndex? k (l.map f).length = some k.toNat := by
    unfold seqIndex?
    rw [List.length_map]
    first
      | (simp; omega)
      | (rw [if_pos h0, if_pos h1])
      | (rw [if_neg (by omega)]; simp; omega)
  simp only [popAtM]
  rw [if_pos ⟨by omega, by omega⟩, e]
  simp only [List.getElem?_map, List.getElem?_eq_getElem hk, Option.map_some, erase_map]
theorem add_all : ∀ (cs qs : List (Int × Int)), qs.Nodup → (cs.foldl addC qs).Nodup ∧ (cs.foldl addC qs).length ≤ qs.length + cs.length
  | [], qs, h => ⟨h, Nat.le_refl _⟩
  | c :: cs, qs, h => by
    have := add_all cs (addC qs c) (nd_addC h)
    have l := len_addC qs c
    rw [List.foldl_cons, List.length_cons]
    exact ⟨this.1, by omega⟩
theorem mem_add_all {p : Int × Int} : ∀ {cs qs : List (Int × Int)}, p ∈ cs.foldl addC qs ↔ p ∈ qs ∨ p ∈ cs
  | [], qs => by simp
  | c :: cs, qs => by
    rw [List.foldl_cons, mem_add_all, mem_addC, List.mem_cons]
    constructor
    · rintro ((h | h) | h)
      · exact .inl h
      · exact .inr (.inl h)
      · exact .inr (.inr h)
    · rintro (h | h | h)
      · exact .inl (.inl h)
      · exact .inl (.inr h)
      · exact .inr h
theorem put_loop (cs : List (Int × Int)) (qs : List (Int × Int)) (x0 x1 x2 x3 x5 x6 x7 x8 : Option Slot) (hl : qs.length + cs.length ≤ 10000) : ∃ y7,
    forS (gN 7) (qPut 4 (xM (eVar 7)) (eC (.bool true))) (cs.map cellD) [x0, x1, x2, x3, some (.ow (.dict (dctT qs))), x5, x6, x7, x8]
      = .ok .nx [x0, x1, x2, x3, some (.ow (.dict (dctT (cs.foldl addC qs)))), x5, x6, y7, x8] := by
  obtain ⟨σ', e, y7, rs, hr, hrl, rfl⟩ := forS_pre (p := gN 7) (body := qPut 4 (xM (eVar 7)) (eC (.bool true))) (g := cellD)
    (Inv := fun pre σ => ∃ (y7 : Option Slot) (rs : List (Int × Int)), rs = pre.foldl addC qs ∧ rs.length ≤ qs.length + pre.length ∧ σ = [x0, x1, x2, x3, some (.ow (.dict (dctT rs))), x5, x6, y7, x8]) cs
    [x0, x1, x2, x3, some (.ow (.dict (dctT qs))), x5, x6, x7, x8] ⟨x7, qs, rfl, Nat.le_refl _, rfl⟩ (by
      rintro pre c post σ he ⟨y7, rs, hr, hrl, rfl⟩
      have hn : cs.length = pre.length + (post.length + 1) := by rw [he, List.length_append, List.length_cons]
      refine ⟨_, [x0, x1, x2, x3, some (.ow (.dict (dctT (addC rs c)))), x5, x6, some (.sh (cellD c)), x8], rfl, .inl ?_, _, addC rs c, ?_, ?_, rfl⟩
      · show qPut 4 (xM (eVar 7)) (eC (.bool true)) [x0, x1, x2, x3, some (.ow (.dict (dctT rs))), x5, x6, some (.sh (cellD c)), x8] = _
        simp only [qPut, ownD, List.getElem?_cons_zero, List.getElem?_cons_succ]
        walk_at "ev"
        rw [putS_dct (by rw [sizeLine_eq]; omega)]
        rfl
      · rw [List.foldl_append, ← hr]; rfl
      · have := len_addC rs c
        rw [List.length_append, List.length_singleton]; omega)
  subst hr
  exact ⟨y7, e⟩
def shInv (P : List (Int × Int)) (lead : Int × Int) (r : Bool) (most : Nat) (σ : SS) : Prop := ∃ (n : Int) (qs : List (Int × Int)) (x5 x6 x7 : Option Slot), 0 ≤ n ∧ qs.Nodup ∧ qs.length ≤ most ∧
  σ = [some (.ow (.list [.int n])), some (.sh (tupC P)), some (.sh (cellD lead)), some (.sh (.bool r)), some (.ow (.dict (dctT qs))), x5, x6, x7, none]
theorem shape_turn1 (P : List (Int × Int)) (lead : Int × Int) (r : Bool) (most : Nat) (σ : SS) (hP : P.length ≤ 1000) (hm : most ≤ 5000) (h : shInv P lead r most σ) (k : D) : ∃ σ1 σ2, gN 5 k σ = some σ1 ∧ B_law_shape_1 σ1 = .ok .nx σ2 ∧ shInv P lead r (most + P.length) σ2 := by
  obtain ⟨n, qs, x5, x6, x7, hn, hnd, hl, rfl⟩ := h
  obtain ⟨a, b⟩ := lead
  have h4 : 0 ≤ n / 4 / 4 := Int.ediv_nonneg (Int.ediv_nonneg hn (by decide)) (by decide)
  have e1 := on_ok P (a + n % 4, b + n / 4 % 4) hP
  obtain ⟨y7, e2⟩ := put_loop (P.map fun s => plusC (a + n % 4, b + n / 4 % 4) s) qs (some (.ow (.list [.int (n / 4 / 4)]))) (some (.sh (tupC P))) (some (.sh (cellD (a, b)))) (some (.sh (.bool r))) (some (.sh k)) (some (.sh (cellD (a + n % 4, b + n / 4 % 4)))) x7 none (by rw [List.length_map]; omega)
  obtain ⟨g1, g2⟩ := add_all (P.map fun s => plusC (a + n % 4, b + n / 4 % 4) s) qs hnd
  rw [List.length_map] at g2
  refine ⟨_, _, rfl, ?_, n / 4 / 4, (P.map fun s => plusC (a + n % 4, b + n / 4 % 4) s).foldl addC qs, some (.sh k), some (.sh (cellD (a + n % 4, b + n / 4 % 4))), y7, h4, g1, by omega, rfl⟩
  have it : ∀ x0 x2 x3 x4 x5 x7 x8 : Option D, I_law_shape_1 [x0, some (tupC P), x2, x3, x4, x5, some (.tuple [.int (a + n % 4), .int (b + n / 4 % 4)]), x7, x8] = .ok ((P.map fun s => plusC (a + n % 4, b + n / 4 % 4) s).map cellD) := fun _ _ _ _ _ _ _ => by
    show ((D_law_on [tupC P, cellD (a + n % 4, b + n / 4 % 4)]).bind seqOf) = _
    rw [e1]; rfl
  show B_law_shape_1 [some (.ow (.list [.int n])), some (.sh (tupC P)), some (.sh (.tuple [.int a, .int b])), some (.sh (.bool r)), some (.ow (.dict (dctT qs))), some (.sh k), x6, x7, none] = _
  unfold B_law_shape_1
  walk_at "ev"
  rw [it]
  walk_at "ev"
  exact e2
theorem shape_turn2 (P : List (Int × Int)) (lead : Int × Int) (r : Bool) (most : Nat) (σ : SS) (hm : most ≤ 5000) (h : shInv P lead r most σ) (k : D) : ∃ σ1 σ2, gN 5 k σ = some σ1 ∧ B_law_shape_2 σ1 = .ok .nx σ2 ∧ shInv P lead r (most + 1) σ2 := by
  obtain ⟨n, qs, x5, x6, x7, hn, hnd, hl, rfl⟩ := h
  obtain ⟨a, b⟩ := lead
  have h4 : 0 ≤ n / 9 / 9 := Int.ediv_nonneg (Int.ediv_nonneg hn (by decide)) (by decide)
  have g := len_addC qs (a + n % 9 - 3, b + n / 9 % 9 - 3)
  refine ⟨_, _, rfl, ?_, n / 9 / 9, addC qs (a + n % 9 - 3, b + n / 9 % 9 - 3), some (.sh k), x6, x7, h4, nd_addC hnd, by omega, rfl⟩
  have e := putS_dct (j := 4) (σ := [some (.ow (.list [.int (n / 9 / 9)])), some (.sh (tupC P)), some (.sh (cellD (a, b))), some (.sh (.bool r)), some (.ow (.dict (dctT qs))), some (.sh k), x6, x7, none]) (qs := qs) (p := (a + n % 9 - 3, b + n / 9 % 9 - 3)) (by rw [sizeLine_eq]; omega)
  show B_law_shape_2 [some (.ow (.list [.int n])), some (.sh (tupC P)), some (.sh (.tuple [.int a, .int b])), some (.sh (.bool r)), some (.ow (.dict (dctT qs))), some (.sh k), x6, x7, none] = _
  unfold B_law_shape_2
  simp only [qPut, ownD, List.getElem?_cons_zero, List.getElem?_cons_succ]
  walk_at "ev"
  exact e
theorem loop_n {body : SF} {Inv : Nat → SS → Prop} {i : Nat} (st : Nat) (top : Nat) (k : ∀ (m : Nat) (σ : SS) (d : D), m < top → Inv m σ → ∃ σ1 σ2, gN i d σ = some σ1 ∧ body σ1 = .ok .nx σ2 ∧ Inv (m + 1) σ2) :
    ∀ (l : List D) (m : Nat) (σ : SS), m + l.length ≤ top → Inv m σ → ∃ σ', forS (gN i) body l σ = .ok .nx σ' ∧ Inv (m + l.length) σ'
  | [], m, σ, _, h => ⟨σ, rfl, h⟩
  | d :: l, m, σ, ht, h => by
    rw [List.length_cons] at ht
    obtain ⟨σ1, σ2, e1, e2, h2⟩ := k m σ d (by omega) h
    obtain ⟨σ3, e3, h3⟩ := loop_n st top k l (m + 1) σ2 (by omega) h2
    refine ⟨σ3, ?_, by rw [List.length_cons]; rw [show m + (l.length + 1) = m + 1 + l.length by omega]; exact h3⟩
    unfold forS
    rw [e1]
    simp only [e2]
    exact e3
def toInv (P : List (Int × Int)) (lead : Int × Int) (r : Bool) (most : Nat) (σ : SS) : Prop := ∃ (n : Int) (cs : List (Int × Int)) (x4 x5 x6 x7 : Option Slot), 0 ≤ n ∧ cs.Pairwise ltP ∧ cs.length ≤ most ∧
  σ = [some (.ow (.list [.int n])), some (.sh (tupC P)), some (.sh (cellD lead)), some (.sh (.bool r)), x4, x5, x6, x7, some (.ow (.list (cs.map cellD)))]
theorem shape_turn3 (P : List (Int × Int)) (lead : Int × Int) (r : Bool) (most : Nat) (σ : SS) (hm : most ≤ 5000) (h : toInv P lead r most σ) (k : D) : ∃ σ1 σ2, gN 5 k σ = some σ1 ∧ B_law_shape_3 σ1 = .ok .nx σ2 ∧ toInv P lead r most σ2 := by
  obtain ⟨n, cs, x4, x5, x6, x7, hn, hpw, hl, rfl⟩ := h
  have e0 := ne_nilL cs
  by_cases hc : cs = []
  · subst hc
    refine ⟨_, _, rfl, ?_, n, [], x4, some (.sh k), x6, x7, hn, hpw, hl, rfl⟩
    show B_law_shape_3 [some (.ow (.list [.int n])), some (.sh (tupC P)), some (.sh (cellD lead)), some (.sh (.bool r)), x4, some (.sh k), x6, x7, some (.ow (.list (([] : List (Int × Int)).map cellD)))] = _
    unfold B_law_shape_3
    walk_at "ev"
    rw [show neD (.list []) (.list []) = _ from e0]
    walk_at "ev"
  · have hp : 0 < ((cs.length : Nat) : Int) := by have := List.length_pos_iff.mpr hc; omega
    have e1 := next_ok (n := n) hp (log2_lt 20 (by omega) (by decide) hp)
    have r1 := emod5 (n := n) _ hp
    obtain ⟨d, e2⟩ := pop_map cellD cs r1.1 r1.2 (by omega)
    refine ⟨_, _, rfl, ?_, n / ((cs.length : Nat) : Int), cs.eraseIdx (n % ((cs.length : Nat) : Int)).toNat, x4, some (.sh k), x6, x7, Int.ediv_nonneg hn (by omega), hpw.sublist (List.eraseIdx_sublist ..), Nat.le_trans (List.length_eraseIdx_le ..) hl, rfl⟩
    show B_law_shape_3 [some (.ow (.list [.int n])), some (.sh (tupC P)), some (.sh (cellD lead)), some (.sh (.bool r)), x4, some (.sh k), x6, x7, some (.ow (.list (cs.map cellD)))] = _
    unfold B_law_shape_3 C_law_shape_1
    walk_at "ev"
    rw [show neD (.list (cs.map cellD)) (.list []) = _ from e0, decide_eq_false hc]
    simp only [qMut, ownL, List.getElem?_cons_zero, List.getElem?_cons_succ]
    walk_at "ev"
    rw [List.length_map, e1]
    walk_at "ev"
    rw [e2]
    simp only [mutK, List.getElem?_cons_zero, List.getElem?_cons_succ]
    walk_at "ev"
abbrev mostC (P : List (Int × Int)) : Nat := (if P.length < 7 then 4 else 2) * P.length + 5
theorem shape_ok (n : Int) (P : List (Int × Int)) (lead : Int × Int) (hn : 0 ≤ n) (hP : P.length ≤ 1000) : PQ (D_law_shape [.int n] [tupC P, cellD lead]) fun d => ∃ (cs : List (Int × Int)) (r : Bool), cs.Pairwise ltP ∧ cs.length ≤ mostC P ∧ d = shp cs r := by
  have h3 : 0 ≤ n / 3 := Int.ediv_nonneg hn (by decide)
  -- behind the cells
  have t1 : ∀ (r : Bool) (most : Nat) (σ : SS), most ≤ 5000 → toInv P lead r most σ → PQ (endP (T_law_shape_1 σ)) fun d => ∃ (cs : List (Int × Int)) (r : Bool), cs.Pairwise ltP ∧ cs.length ≤ most ∧ d = shp cs r := by
    rintro r most σ hm ⟨n, cs, x4, x5, x6, x7, hn, hpw, hl, rfl⟩
    unfold T_law_shape_1
    walk_at "ev"
    exact PQ.ok hn ⟨cs, r, hpw, hl, rfl⟩
  have t2 : ∀ (r : Bool) (most : Nat) (σ : SS), most ≤ 5000 → shInv P lead r most σ → PQ (endP (T_law_shape_2 σ)) fun d => ∃ (cs : List (Int × Int)) (r : Bool), cs.Pairwise ltP ∧ cs.length ≤ most ∧ d = shp cs r := by
    rintro r most σ hm ⟨n, qs, x5, x6, x7, hn, hnd, hl, rfl⟩
    have g := emod5 (n := n) 3 (by decide)
    obtain ⟨σ', e, h⟩ := loop_n (body := B_law_shape_3) (Inv := fun _ σ => toInv P lead r most σ) (i := 5) 0 3 (fun m σ d _ h => shape_turn3 P lead r most σ hm h d) ((List.range (n % 3).toNat).map fun k : Nat => PyData.int (k : Nat)) 0
      [some (.ow (.list [.int (n / 3)])), some (.sh (tupC P)), some (.sh (cellD lead)), some (.sh (.bool r)), some (.sh (.dict (dctT qs))), x5, x6, x7, some (.ow (.list ((srt qs).map cellD)))] (by rw [List.length_map, List.length_range]; omega)
      ⟨n / 3, srt qs, _, x5, x6, x7, Int.ediv_nonneg hn (by decide), pw_srt _, Nat.le_trans (srt_len _) hl, rfl⟩
    have t := t1 r most σ' hm h
    unfold T_law_shape_2
    walk_at "ev"
    rw [sort_dct hnd]
    walk_at "ev"
    rw [rng1_nat g.1 (by omega)]
    walk_at "ev"
    rw [e]
    exact t
  have t3 : ∀ (r : Bool) (most : Nat) (σ : SS), most ≤ 4000 → shInv P lead r most σ → PQ (endP (T_law_shape_3 σ)) fun d => ∃ (cs : List (Int × Int)) (r : Bool), cs.Pairwise ltP ∧ cs.length ≤ most + 5 ∧ d = shp cs r := by
    rintro r most σ hm ⟨n, qs, x5, x6, x7, hn, hnd, hl, rfl⟩
    have g := emod5 (n := n) 6 (by decide)
    obtain ⟨σ', e, h⟩ := loop_n (body := B_law_shape_2) (Inv := fun j σ => shInv P lead r (most + j) σ) (i := 5) 0 5 (fun m σ d hm h => shape_turn2 P lead r (most + m) σ (by omega) h d) ((List.range (n % 6).toNat).map fun k : Nat => PyData.int (k : Nat)) 0
      [some (.ow (.list [.int (n / 6)])), some (.sh (tupC P)), some (.sh (cellD lead)), some (.sh (.bool r)), some (.ow (.dict (dctT qs))), x5, x6, x7, none] (by rw [List.length_map, List.length_range]; omega)
      ⟨n / 6, qs, x5, x6, x7, Int.ediv_nonneg hn (by decide), hnd, hl, rfl⟩
    rw [List.length_map, List.length_range] at h
    obtain ⟨d, n', e2, hn', cs, r', h1, h2, h3⟩ := t2 r _ σ' (by omega) h
    unfold T_law_shape_3
    walk_at "ev"
    rw [rng1_nat g.1 (by omega)]
    walk_at "ev"
    rw [e]
    exact ⟨d, n', e2, hn', cs, r', h1, by omega, h3⟩
  have lm : (P.map cellD).length = P.length := List.length_map ..
  have main : ∀ c : Nat, (c = 3 ∨ c = 5) → (c - 1) * P.length ≤ 4000 → (D_law_shape [.int n] [tupC P, cellD lead] = endP (sSeq (fun σ => forS (gN 5) B_law_shape_1 ((List.range (n / 3 % ((c : Nat) : Int)).toNat).map fun k : Nat => PyData.int (k : Nat)) σ) T_law_shape_3 [some (.ow (.list [.int (n / 3 / ((c : Nat) : Int))])), some (.sh (tupC P)), some (.sh (cellD lead)), some (.sh (.bool (n % 3 == 0))), some (.ow (.dict [])), none, none, none, none])) →
      PQ (D_law_shape [.int n] [tupC P, cellD lead]) fun d => ∃ (cs : List (Int × Int)) (r : Bool), cs.Pairwise ltP ∧ cs.length ≤ (c - 1) * P.length + 5 ∧ d = shp cs r := by
    intro c hc hcl e
    have g := emod5 (n := n / 3) ((c : Nat) : Int) (by omega)
    have hm : ∀ m : Nat, m < c - 1 → m * P.length ≤ 5000 := fun m h => Nat.le_trans (Nat.mul_le_mul_right _ (Nat.le_of_lt h)) (by omega)
    obtain ⟨σ', e1, h⟩ := loop_n (body := B_law_shape_1) (Inv := fun j σ => shInv P lead (n % 3 == 0) (j * P.length) σ) (i := 5) 0 (c - 1) (fun m σ d hmm h => by
        have := shape_turn1 P lead (n % 3 == 0) (m * P.length) σ hP (hm m hmm) h d
        rw [show (m + 1) * P.length = m * P.length + P.length by rw [Nat.add_mul, Nat.one_mul]]
        exact this) ((List.range (n / 3 % ((c : Nat) : Int)).toNat).map fun k : Nat => PyData.int (k : Nat)) 0
      [some (.ow (.list [.int (n / 3 / (c : Nat))])), some (.sh (tupC P)), some (.sh (cellD lead)), some (.sh (.bool (n % 3 == 0))), some (.ow (.dict [])), none, none, none, none] (by rw [List.length_map, List.length_range]; omega)
      ⟨_, [], none, none, none, Int.ediv_nonneg h3 (by omega), List.nodup_nil, Nat.zero_le _, rfl⟩
    rw [List.length_map, List.length_range, Nat.zero_add] at h
    have lt : (n / 3 % ((c : Nat) : Int)).toNat * P.length ≤ (c - 1) * P.length := Nat.mul_le_mul_right _ (by omega)
    obtain ⟨d, n', e2, hn', cs, r', h1, h2, h3⟩ := t3 _ _ σ' (by omega) h
    rw [e]
    unfold sSeq
    dsimp only
    rw [e1]
    exact ⟨d, n', e2, hn', cs, r', h1, by omega, h3⟩
  unfold mostC
  by_cases h7 : P.length < 7
  · rw [if_pos h7]
    refine main 5 (.inr rfl) (by omega) ?_
    have hd : decide (((P.length : Nat) : Int) < 7) = true := decide_eq_true (by omega)
    unfold D_law_shape
    walk_at "ev"
    rw [show (tupC P : D) = .tuple (P.map cellD) from rfl]
    walk_at "ev"
    rw [lm, hd]
    walk_at "ev"
    rw [show E3.intD [.bool true] = .ok (.int 1) from rfl]
    walk_at "ev"
    have g := emod5 (n := n / 3) 5 (by decide)
    rw [show ∀ x : Int, rng1 [.int (x % (3 + 2 * 1))] = rng1 [.int (x % 5)] from fun _ => rfl, rng1_nat g.1 (by omega)]
    walk_at "ev"
    rfl
  · rw [if_neg h7]
    refine main 3 (.inl rfl) (by omega) ?_
    have hd : decide (((P.length : Nat) : Int) < 7) = false := decide_eq_false (by omega)
    unfold D_law_shape
    walk_at "ev"
    rw [show (tupC P : D) = .tuple (P.map cellD) from rfl]
    walk_at "ev"
    rw [lm, hd]
    walk_at "ev"
    rw [show E3.intD [.bool false] = .ok (.int 0) from rfl]
    walk_at "ev"
    have g := emod5 (n := n / 3) 3 (by decide)
    rw [show ∀ x : Int, rng1 [.int (x % (3 + 2 * 0))] = rng1 [.int (x % 3)] from fun _ => rfl, rng1_nat g.1 (by omega)]
    walk_at "ev"
    rfl
end H6

namespace H6
open PySem PySem.Spec PyProof.Rows L2 E3
local macro_rules | `(tactic| walk_at "ev") => `(tactic| try simp (disch := first | decide | decide +kernel | omega) only [fnD, startF, endF, sSeq, sAsg, sSet, sSetV, sAsgV, sIf, sRet, sNew, sNewV, sMut, sMutV, sFor, sForR, sFreeze, sNil, sExpr, optK, thenR_ok, thenR_exc, thenR_stuck,
  view, mask, E3.eVar_zero, E3.eVar_succ, eC, e1, e2, eCall, eTup, eLst, eSl, oNone, oSome, eAnd, eOr, eIf, E3.tAnd, E3.tOr, E3.tNot, E3.tB, asB, notD, aNil, aCons, Res.bind_ok, Res.bind_exc, Res.bind_stuck,
  gT, gsCons, gsNil, gN, tupD, lstD, Slot.dat, Slot.shd, List.length_cons, List.length_nil, List.map_cons, List.map_nil, List.replicate, List.append_nil, List.cons_append, List.nil_append, Option.map_some, Option.map_none, Option.bind_some, Option.bind_none,
  List.getElem?_cons_zero, List.getElem?_cons_succ, List.set_cons_zero, List.set_cons_succ, Nat.reduceAdd, Nat.reduceSub, Nat.reduceEqDiff, if_true, if_false, ite_true, ite_false, reduceIte, decide_true, decide_false, reduceCtorEq, Bool.not_true, Bool.not_false, Bool.false_eq_true, Bool.true_eq_false, Bool.or_true, Bool.true_or, Bool.false_or, Bool.or_false, Bool.and_true, Bool.and_false, Bool.true_and, Bool.false_and, addI, subI, ltI, leI, gtI, geI, eqI, neI, E3.negI, ix_cell0, ix_cell1, E3.le0, E3.le1, E3.le2, E3.le3, E3.le4, E3.le5, E3.le6, beq_self_eq_true, Int.reduceBEq, E3.divmodI, E3.modI, E3.fdivI, E3.powL, E3.mulLL, E3.isi_bool_none, E3.isi_bool_bool, E3.isi_bool_int, E3.isi_bool_str, E3.isi_bool_list, E3.isi_bool_tuple, E3.isi_int_none, E3.isi_int_bool, E3.isi_int_int, E3.isi_int_str, E3.isi_int_list, E3.isi_int_tuple, E3.isi_str_none, E3.isi_str_bool, E3.isi_str_int, E3.isi_str_str, E3.isi_str_list, E3.isi_str_tuple, E3.isi_list_none, E3.isi_list_bool, E3.isi_list_int, E3.isi_list_str, E3.isi_list_list, E3.isi_list_tuple, E3.isi_tuple_none, E3.isi_tuple_bool, E3.isi_tuple_int, E3.isi_tuple_str, E3.isi_tuple_list, E3.isi_tuple_tuple, E3.isN_none, E3.ntN_none, E3.isN_bool, E3.ntN_bool, E3.isN_int, E3.ntN_int, E3.isN_str, E3.ntN_str, E3.isN_list, E3.ntN_list, E3.isN_tuple, E3.ntN_tuple, E3.len_list, E3.len_tup, E3.seq_list, E3.seq_tup, E3.tup_list, E3.tup_tup, E3.lst_list, E3.lst_tup, xM, xV, xB, xTB, x2, xAnd, xNil, xCons, xTup, xLst, xCall, xSl, xPot, ownX, potK, XR.bind_ok, XR.bind_exc, XR.bind_stuck, XR.of_ok, XR.of_exc, XR.of_stuck, thenX_ok, thenX_exc, thenX_stuck, qSet, qRet, qIf, qAsg, qForR, qFor, E3.flatR_i, E3.flatR_b, E3.flatR_ii, E3.flatR_c, fnP, startP, endP, fnN, endN, E3.ix_lst0, H6.nextI, Int.cast_ofNat_Int])

theorem sort_nd {qs : List (Int × Int)} (hn : qs.Nodup) (hl : qs.length ≤ 10000) : sortedD [.list (qs.map cellD)] = .ok (.list ((srt qs).map cellD)) := by
  have hs : qs.length ≤ sizeLine := by rw [sizeLine_eq]; omega
  obtain ⟨ps, e, _⟩ := sort_perm qs hs
  have e2 : ∀ l : List D, sortedD [.list l] = (if sortOk l = true then Res.ok (PyData.list (sortL l)) else .stuck) := fun _ => rfl
  rw [e2] at e ⊢
  split at e
  · rename_i ok
    rw [if_pos ok, sortL_srt hn]
  · cases e
theorem hasK_dct (qs : List (Int × Int)) (p : Int × Int) : hasK (dctT qs) (kOf p) = decide (p ∈ qs) := dct_any qs p
theorem ob_dct (qs : List (Int × Int)) : obK (dctT qs) = false := by cases qs <;> rfl
theorem in_dct (qs : List (Int × Int)) (p : Int × Int) : inG (cellD p) (.dict (dctT qs)) = .ok (.bool (decide (p ∈ qs))) := H3.in_dict qs _ (ob_dct qs) (hasK_dct qs) p
theorem keys_dct (qs : List (Int × Int)) : keysR (.dict (dctT qs)) = .ok (qs.map cellD) := by
  show Res.ok ((dctT qs).map (·.1)) = _
  unfold dctT
  rw [List.map_map]
  rfl
theorem ext_pw {ps qs : List (Int × Int)} (hp : ps.Pairwise ltP) (hq : qs.Pairwise ltP) (h : ∀ p, p ∈ ps ↔ p ∈ qs) : ps = qs :=
  has_uniq (b := false) hp hq fun p => by
    unfold hasB
    rw [decide_eq_decide.mpr (h p)]
theorem srt_ext {ps qs : List (Int × Int)} (h : ∀ p, p ∈ ps ↔ p ∈ qs) : srt ps = srt qs := ext_pw (pw_srt _) (pw_srt _) fun p => by rw [mem_srt, mem_srt]; exact h p
theorem srt_pw {ps : List (Int × Int)} (h : ps.Pairwise ltP) : srt ps = ps := ext_pw (pw_srt _) h fun p => mem_srt
def D_law_number : List D → Res D := fnD 1 1 (sRet (eAnd (e1 (isiD "int") (eVar 0)) (e1 notD (e1 (isiD "bool") (eVar 0)))))
def I_law_cells_are_1 : DS → Res (List D) := (fun σ => ((aCons (eCall lenD (aCons (eVar 1) aNil)) aNil) σ).bind rng1)
def B_law_cells_are_1 : SF := (sSeq (sIf (E3.tOr (E3.tNot (E3.tB (e1 (isiD "tuple") (e2 ixD (eVar 0) (eVar 2))))) (E3.tOr (tB (e2 neD (eCall lenD (aCons (e2 ixD (eVar 0) (eVar 2)) aNil)) (eC (.int 2)))) (tB (e2 neD (e2 ixD (eVar 0) (eVar 2)) (e2 ixD (eVar 1) (eVar 2)))))) (sRet (eC (.bool false))) sNil)
  (sIf (E3.tOr (E3.tNot (E3.tB (eCall D_law_number (aCons (e2 ixD (e2 ixD (eVar 0) (eVar 2)) (eC (.int 0))) aNil)))) (E3.tNot (E3.tB (eCall D_law_number (aCons (e2 ixD (e2 ixD (eVar 0) (eVar 2)) (eC (.int 1))) aNil))))) (sRet (eC (.bool false))) sNil))
def D_law_cells_are : List D → Res D := fnD 3 2 (sSeq (sIf (E3.tOr (E3.tNot (E3.tB (e1 (isiD "tuple") (eVar 0)))) (tB (e2 neD (eCall lenD (aCons (eVar 0) aNil)) (eCall lenD (aCons (eVar 1) aNil))))) (sRet (eC (.bool false))) sNil)
  (sSeq (sFor I_law_cells_are_1 (gN 2)
  B_law_cells_are_1)
  (sRet (eC (.bool true)))))
def D_law_shape_is : List D → Res D := fnD 2 2 (sSeq (sIf (E3.tOr (E3.tNot (E3.tB (e1 (isiD "tuple") (eVar 0)))) (E3.tOr (tB (e2 neD (eCall lenD (aCons (eVar 0) aNil)) (eC (.int 2)))) (E3.tNot (E3.tB (e1 (isiD "bool") (e2 ixD (eVar 0) (eC (.int 1)))))))) (sRet (eC (.bool false))) sNil)
  (sRet (eAnd (eCall D_law_cells_are (aCons (e2 ixD (eVar 0) (eC (.int 0))) (aCons (e2 ixD (eVar 1) (eC (.int 0))) aNil))) (e2 eqD (e2 ixD (eVar 0) (eC (.int 1))) (e2 ixD (eVar 1) (eC (.int 1)))))))
def rowD (b : Bool) (xs : List (Int × Int)) : D := if b then .tuple (xs.map cellD) else .list (xs.map cellD)
theorem cells_turn (xs : List (Int × Int)) (b : Bool) (k : Nat) (hk : k < xs.length) : B_law_cells_are_1 [some (.sh (tupC xs)), some (.sh (rowD b xs)), some (.sh (.int (k : Nat)))] = .ok .nx [some (.sh (tupC xs)), some (.sh (rowD b xs)), some (.sh (.int (k : Nat)))] := by
  have hd : (xs.map cellD)[k]? = some (cellD xs[k]) := by rw [List.getElem?_map, List.getElem?_eq_getElem hk]; rfl
  have e1 : ixD (tupC xs) (.int (k : Nat)) = .ok (cellD xs[k]) := (ix_at hd).1
  have e2 : ixD (rowD b xs) (.int (k : Nat)) = .ok (cellD xs[k]) := by
    cases b
    · exact (ix_at hd).2
    · exact (ix_at hd).1
  have e3 := ne_cell xs[k] xs[k]
  rw [decide_eq_true rfl] at e3
  have n1 : D_law_number [.int xs[k].1] = .ok (.bool true) := rfl
  have n2 : D_law_number [.int xs[k].2] = .ok (.bool true) := rfl
  have c : cellD xs[k] = .tuple [.int xs[k].1, .int xs[k].2] := rfl
  generalize xs[k] = p at e1 e2 e3 n1 n2 c
  generalize tupC xs = T at e1 ⊢
  generalize rowD b xs = L at e2 ⊢
  generalize PyData.int ((k : Nat) : Int) = j at e1 e2 ⊢
  rw [c] at e1 e2 e3
  unfold B_law_cells_are_1
  walk_at "ev"
  rw [e1]
  walk_at "ev"
  rw [e2]
  walk_at "ev"
  rw [e3]
  walk_at "ev"
  rw [e1]
  walk_at "ev"
  rw [n1]
  walk_at "ev"
  rw [n2]
  walk_at "ev"
theorem cells_it (T L : D) (n : Int) (h : lenD [L] = .ok (.int n)) (hn : 0 ≤ n ∧ n ≤ 100000) : I_law_cells_are_1 [some T, some L, none] = .ok ((List.range n.toNat).map fun k : Nat => PyData.int (k : Nat)) := by
  have := rng1_nat hn.1 hn.2
  unfold I_law_cells_are_1
  walk_at "ev"
  rw [h]
  walk_at "ev"
  exact this
theorem cells_are_eq (T L : D) (n : Int) (x2 : Option Slot) (h1 : lenD [T] = .ok (.int n)) (h2 : lenD [L] = .ok (.int n)) (hn : 0 ≤ n ∧ n ≤ 100000) (hT : isiD "tuple" T = .ok (.bool true))
    (e : forS (gN 2) B_law_cells_are_1 ((List.range n.toNat).map fun k : Nat => PyData.int (k : Nat)) [some (.sh T), some (.sh L), none] = .ok .nx [some (.sh T), some (.sh L), x2]) : D_law_cells_are [T, L] = .ok (.bool true) := by
  have it := cells_it T L n h2 hn
  have nn : neD (.int n) (.int n) = .ok (.bool false) := by rw [neI]; simp
  generalize PyData.int n = m at *
  unfold D_law_cells_are
  walk_at "ev"
  rw [hT]
  walk_at "ev"
  rw [h1]
  walk_at "ev"
  rw [h2]
  walk_at "ev"
  rw [nn]
  walk_at "ev"
  rw [it]
  walk_at "ev"
  rw [e]
  walk_at "ev"
theorem cells_are_ok (xs : List (Int × Int)) (b : Bool) (hl : xs.length ≤ 10000) : D_law_cells_are [tupC xs, rowD b xs] = .ok (.bool true) := by
  obtain ⟨σ', e, x2, rfl⟩ := forS_pre (p := gN 2) (body := B_law_cells_are_1) (g := fun k : Nat => PyData.int (k : Nat))
    (Inv := fun pre σ => ∃ x2, σ = [some (.sh (tupC xs)), some (.sh (rowD b xs)), x2]) (List.range xs.length) [some (.sh (tupC xs)), some (.sh (rowD b xs)), none] ⟨none, rfl⟩ (by
      rintro pre k post σ he ⟨x2, rfl⟩
      have hk : k < xs.length := List.mem_range.mp (by rw [he]; simp)
      exact ⟨_, _, rfl, .inl (cells_turn xs b k hk), _, rfl⟩)
  have ll : lenD [rowD b xs] = .ok (.int (xs.length : Nat)) := by
    cases b
    · show Res.ok (PyData.int ((xs.map cellD).length : Nat)) = _
      rw [List.length_map]
    · show Res.ok (PyData.int ((xs.map cellD).length : Nat)) = _
      rw [List.length_map]
  have lt : lenD [tupC xs] = .ok (.int (xs.length : Nat)) := by
    show Res.ok (PyData.int ((xs.map cellD).length : Nat)) = _
    rw [List.length_map]
  have hn : ((xs.length : Nat) : Int).toNat = xs.length := Int.toNat_natCast _
  have hn2 : (0 : Int) ≤ (xs.length : Nat) ∧ ((xs.length : Nat) : Int) ≤ 100000 := by omega
  generalize ((xs.length : Nat) : Int) = n at ll lt hn hn2
  rw [← hn] at e
  exact cells_are_eq _ _ n x2 lt ll hn2 rfl e
theorem shape_is_ok (xs : List (Int × Int)) (r b : Bool) (hl : xs.length ≤ 10000) : D_law_shape_is [shp xs r, .tuple [rowD b xs, .bool r]] = .ok (.bool true) := by
  have e := cells_are_ok xs b hl
  have c : shp xs r = .tuple [tupC xs, .bool r] := rfl
  have eb : eqD (.bool r) (.bool r) = .ok (.bool true) := by cases r <;> rfl
  rw [c]
  generalize tupC xs = T at *
  generalize rowD b xs = L at *
  unfold D_law_shape_is
  walk_at "ev"
  rw [e]
  walk_at "ev"
  rw [eb]
  walk_at "ev"
end H6

namespace H30
open PySem PySem.Spec PyProof.Rows L2 E3 H6
local macro_rules | `(tactic| walk_at "ev") => `(tactic| try simp (disch := first | decide | decide +kernel | omega) only [fnD, eMeth, eMeth0, eMk2, mk2R, xOr, xNot, startF, endF, sSeq, sAsg, sSet, sSetV, sAsgV, sIf, sRet, sNew, sNewV, sMut, sMutV, sFor, sForR, sFreeze, sNil, sExpr, optK, thenR_ok, thenR_exc, thenR_stuck,
  view, mask, E3.eVar_zero, E3.eVar_succ, eC, e1, e2, eCall, eTup, eLst, eSl, oNone, oSome, eAnd, eOr, eIf, E3.tAnd, E3.tOr, E3.tNot, E3.tB, asB, notD, aNil, aCons, Res.bind_ok, Res.bind_exc, Res.bind_stuck,
  gT, gsCons, gsNil, gN, tupD, lstD, Slot.dat, Slot.shd, List.length_cons, List.length_nil, List.map_cons, List.map_nil, List.replicate, List.append_nil, List.cons_append, List.nil_append, Option.map_some, Option.map_none, Option.bind_some, Option.bind_none,
  List.getElem?_cons_zero, List.getElem?_cons_succ, List.set_cons_zero, List.set_cons_succ, Nat.reduceAdd, Nat.reduceSub, Nat.reduceEqDiff, if_true, if_false, ite_true, ite_false, reduceIte, decide_true, decide_false, reduceCtorEq, Bool.not_true, Bool.not_false, Bool.false_eq_true, Bool.true_eq_false, Bool.or_true, Bool.true_or, Bool.false_or, Bool.or_false, Bool.and_true, Bool.and_false, Bool.true_and, Bool.false_and, addI, subI, ltI, leI, gtI, geI, eqI, neI, E3.negI, ix_cell0, ix_cell1, E3.le0, E3.le1, E3.le2, E3.le3, E3.le4, E3.le5, E3.le6, beq_self_eq_true, Int.reduceBEq, E3.divmodI, E3.modI, E3.fdivI, E3.powL, E3.mulLL, E3.isi_bool_none, E3.isi_bool_bool, E3.isi_bool_int, E3.isi_bool_str, E3.isi_bool_list, E3.isi_bool_tuple, E3.isi_int_none, E3.isi_int_bool, E3.isi_int_int, E3.isi_int_str, E3.isi_int_list, E3.isi_int_tuple, E3.isi_str_none, E3.isi_str_bool, E3.isi_str_int, E3.isi_str_str, E3.isi_str_list, E3.isi_str_tuple, E3.isi_list_none, E3.isi_list_bool, E3.isi_list_int, E3.isi_list_str, E3.isi_list_list, E3.isi_list_tuple, E3.isi_tuple_none, E3.isi_tuple_bool, E3.isi_tuple_int, E3.isi_tuple_str, E3.isi_tuple_list, E3.isi_tuple_tuple, E3.isN_none, E3.ntN_none, E3.isN_bool, E3.ntN_bool, E3.isN_int, E3.ntN_int, E3.isN_str, E3.ntN_str, E3.isN_list, E3.ntN_list, E3.isN_tuple, E3.ntN_tuple, E3.len_list, E3.len_tup, E3.seq_list, E3.seq_tup, E3.tup_list, E3.tup_tup, E3.lst_list, E3.lst_tup, xM, xV, xB, xTB, x2, xAnd, xNil, xCons, xTup, xLst, xCall, xSl, xPot, ownX, potK, XR.bind_ok, XR.bind_exc, XR.bind_stuck, XR.of_ok, XR.of_exc, XR.of_stuck, thenX_ok, thenX_exc, thenX_stuck, qSet, qRet, qIf, qAsg, qForR, qFor, E3.flatR_i, E3.flatR_b, E3.flatR_ii, E3.flatR_c, fnP, startP, endP, fnL, startL, endL, xPotL, xLast, fnN, endN, E3.ix_lst0, H6.nextI, Int.cast_ofNat_Int])
local macro_rules | `(tactic| walk_at "evs") => `(tactic| try simp (disch := first | decide | decide +kernel | omega) only [fnD, eMeth, eMeth0, eMk2, mk2R, xOr, xNot, startF, endF, sSeq, sAsg, sSet, sSetV, sAsgV, sIf, sRet, sNew, sNewV, sMut, sMutV, sFor, sForR, sFreeze, sNil, sExpr, optK, thenR_ok, thenR_exc, thenR_stuck,
  view, mask, E3.eVar_zero, E3.eVar_succ, eC, e1, e2, eCall, eTup, eLst, eSl, oNone, oSome, eAnd, eOr, eIf, E3.tAnd, E3.tOr, E3.tNot, E3.tB, asB, notD, aNil, aCons, Res.bind_ok, Res.bind_exc, Res.bind_stuck,
  gT, gsCons, gsNil, gN, tupD, lstD, Slot.dat, Slot.shd, List.length_cons, List.length_nil, List.map_cons, List.map_nil, List.replicate, List.append_nil, List.cons_append, List.nil_append, Option.map_some, Option.map_none, Option.bind_some, Option.bind_none,
  List.getElem?_cons_zero, List.getElem?_cons_succ, List.set_cons_zero, List.set_cons_succ, Nat.reduceAdd, Nat.reduceSub, Nat.reduceEqDiff, if_true, if_false, ite_true, ite_false, reduceIte, decide_true, decide_false, reduceCtorEq, Bool.not_true, Bool.not_false, Bool.false_eq_true, Bool.true_eq_false, Bool.or_true, Bool.true_or, Bool.false_or, Bool.or_false, Bool.and_true, Bool.and_false, Bool.true_and, Bool.false_and, addI, subI, ltI, leI, gtI, geI, eqI, neI, E3.negI, ix_cell0, ix_cell1, E3.le0, E3.le1, E3.le2, E3.le3, E3.le4, E3.le5, E3.le6, beq_self_eq_true, Int.reduceBEq, E3.divmodI, E3.modI, E3.fdivI, E3.powL, E3.mulLL, E3.isi_bool_none, E3.isi_bool_bool, E3.isi_bool_int, E3.isi_bool_str, E3.isi_bool_list, E3.isi_bool_tuple, E3.isi_int_none, E3.isi_int_bool, E3.isi_int_int, E3.isi_int_str, E3.isi_int_list, E3.isi_int_tuple, E3.isi_str_none, E3.isi_str_bool, E3.isi_str_int, E3.isi_str_str, E3.isi_str_list, E3.isi_str_tuple, E3.isi_list_none, E3.isi_list_bool, E3.isi_list_int, E3.isi_list_str, E3.isi_list_list, E3.isi_list_tuple, E3.isi_tuple_none, E3.isi_tuple_bool, E3.isi_tuple_int, E3.isi_tuple_str, E3.isi_tuple_list, E3.isi_tuple_tuple, E3.isN_none, E3.ntN_none, E3.isN_bool, E3.ntN_bool, E3.isN_int, E3.ntN_int, E3.isN_str, E3.ntN_str, E3.isN_list, E3.ntN_list, E3.isN_tuple, E3.ntN_tuple, E3.len_list, E3.len_tup, E3.seq_list, E3.seq_tup, E3.tup_list, E3.tup_tup, E3.lst_list, E3.lst_tup, xM, xV, xB, xTB, x2, xAnd, xNil, xCons, xTup, xLst, xCall, xSl, xPot, ownX, potK, XR.bind_ok, XR.bind_exc, XR.bind_stuck, XR.of_ok, XR.of_exc, XR.of_stuck, thenX_ok, thenX_exc, thenX_stuck, qSet, qRet, qIf, qAsg, qForR, qFor, E3.flatR_i, E3.flatR_b, E3.flatR_ii, E3.flatR_c, fnP, startP, endP, fnL, startL, endL, xPotL, xLast, fnN, endN, E3.ix_lst0, H6.nextI, Int.cast_ofNat_Int, *])
def D_law_take : PF := fnP 3 2 (sSeq (qSet 2 (xV (e2 modD (e2 ixD (eVar 0) (eC (.int 0))) (eVar 1))))
  (sSeq (qAsg (gStore 0 0) (xV (e2 fdivD (e2 ixD (eVar 0) (eC (.int 0))) (eVar 1))))
  (qRet (xM (eVar 2)))))
def I_law_shape_1 : DS → Res (List D) := (fun σ => ((aCons (eVar 1) aNil) σ).bind rng1)
def B_law_shape_1 : SF := (sSeq (qSet 7 (x2 subD (x2 addD (xM (eVar 3)) (xPot 0 D_law_take (xCons (xM (e2 addD (e2 mulD (eC (.int 2)) (eVar 2)) (eC (.int 1)))) xNil))) (xM (eVar 2))))
  (qMut 5 appendM (xCons (xTup (xCons (xM (eVar 7)) (xCons (x2 subD (x2 addD (xM (eVar 4)) (xPot 0 D_law_take (xCons (xM (e2 addD (e2 mulD (eC (.int 2)) (eVar 2)) (eC (.int 1)))) xNil))) (xM (eVar 2))) xNil))) xNil)))
def T_law_shape_1 : SF := (sFreeze 5 (qRet (xTup (xCons (xM (eCall tupleD (aCons (e1 sortSetD (eVar 5)) aNil))) (xCons (x2 eqD (xPot 0 D_law_take (xCons (xM (eC (.int 2))) xNil)) (xM (eC (.int 1)))) xNil)))))
def D_law_shape : PF := fnP 8 1 (sSeq (qSet 1 (x2 ixD (xM (eLst (aCons (eC (.int 0)) (aCons (eC (.int 1)) (aCons (eC (.int 2)) (aCons (eC (.int 3)) (aCons (eC (.int 5)) (aCons (eC (.int 8)) (aCons (eC (.int 12)) (aCons (eC (.int 20)) aNil)))))))))) (xPot 0 D_law_take (xCons (xM (eC (.int 8))) xNil))))
  (sSeq (qSet 2 (x2 ixD (xM (eLst (aCons (eC (.int 1)) (aCons (eC (.int 2)) (aCons (eC (.int 3)) (aCons (eC (.int 5)) aNil)))))) (xPot 0 D_law_take (xCons (xM (eC (.int 4))) xNil))))
  (sSeq (qSet 3 (x2 ixD (xM (eLst (aCons (eC (.int 0)) (aCons (eC (.int 0)) (aCons (eC (.int 0)) (aCons (e2 subD (e2 powD (eC (.int 10)) (eC (.int 12))) (eVar 2)) (aCons (e2 subD (eVar 2) (e2 powD (eC (.int 10)) (eC (.int 12)))) aNil))))))) (xPot 0 D_law_take (xCons (xM (eC (.int 5))) xNil))))
  (sSeq (qSet 4 (x2 ixD (xM (eLst (aCons (eC (.int 0)) (aCons (eC (.int 0)) (aCons (eC (.int 0)) (aCons (e2 subD (e2 powD (eC (.int 10)) (eC (.int 12))) (eVar 2)) (aCons (e2 subD (eVar 2) (e2 powD (eC (.int 10)) (eC (.int 12)))) aNil))))))) (xPot 0 D_law_take (xCons (xM (eC (.int 5))) xNil))))
  (sSeq (sNew 5 (eLst aNil))
  (sSeq (sFor I_law_shape_1 (gN 6)
  B_law_shape_1)
  T_law_shape_1))))))
def D_law_step : PF := fnP 3 1 (sSeq (qSet 1 (x2 ixD (xM (eLst (aCons (eC (.int 1)) (aCons (eC (.int 2)) (aCons (eC (.int 3)) (aCons (e2 powD (eC (.int 10)) (eC (.int 6))) aNil)))))) (xPot 0 D_law_take (xCons (xM (eC (.int 4))) xNil))))
  (sSeq (qSet 2 (x2 subD (xPot 0 D_law_take (xCons (xM (e2 addD (e2 mulD (eC (.int 2)) (eVar 1)) (eC (.int 1)))) xNil)) (xM (eVar 1))))
  (qRet (xTup (xCons (xM (eVar 2)) (xCons (x2 subD (xPot 0 D_law_take (xCons (xM (e2 addD (e2 mulD (eC (.int 2)) (eVar 1)) (eC (.int 1)))) xNil)) (xM (eVar 1))) xNil))))))
def C_law_deal_1 : SF := (sRet (e2 subD (eVar 0) (e2 powD (eC (.int 10)) (eC (.int 18)))))
def I_law_deal_1 : DS → Res (List D) := (fun σ => ((aCons (eVar 1) aNil) σ).bind rng1)
def B_law_deal_1 : SF := (sSeq (sSet 3 (e2 modD (e2 addD (e2 addD (e2 mulD (eVar 3) (eC (.int 48271))) (e2 mulD (e2 mulD (eC (.int 7919)) (eVar 4)) (eVar 4))) (eC (.int 104729))) (eC (.int 2147483647))))
  (sSeq (sSet 5 (e2 modD (e2 mulD (eVar 3) (eVar 3)) (eC (.int 2147483629))))
  (sSet 2 (e2 addD (e2 mulD (eVar 2) (eC (.int 65536))) (e2 modD (e2 fdivD (eVar 5) (eC (.int 512))) (eC (.int 65536)))))))
def D_law_deal : List D → Res D := fnD 6 2 (sSeq (sIf (tB (e2 geD (eVar 0) (e2 powD (eC (.int 10)) (eC (.int 18))))) C_law_deal_1 sNil)
  (sSeq (sSet 2 (eC (.int 0)))
  (sSeq (sSet 3 (e2 addD (e2 modD (eVar 0) (eC (.int 2147483647))) (eC (.int 16807))))
  (sSeq (sFor I_law_deal_1 (gN 4)
  B_law_deal_1)
  (sRet (eVar 2))))))
def C_law_same_1 (D_rec : List D → Res D) : SF := (sSeq (sIf (E3.tOr (tB (e2 neD (e1 (isiD "tuple") (eVar 0)) (e1 (isiD "tuple") (eVar 1)))) (E3.tNot (E3.tB (e1 (isiTD ["tuple", "list"]) (eVar 0))))) (sRet (eC (.bool false))) sNil)
  (sRet (eAnd (e2 eqD (eCall lenD (aCons (eVar 0) aNil)) (eCall lenD (aCons (eVar 1) aNil))) (eCall allD (aCons (eLc (fun σ => ((aCons (eVar 0) (aCons (eVar 1) aNil)) σ).bind zipR) (gT 2 (gsCons (gN 2) (gsCons (gN 3) gsNil))) [2, 3] tYesD (eCall D_rec (aCons (eVar 2) (aCons (eVar 3) aNil)))) aNil)))))
def C_law_same_2 (D_rec : List D → Res D) : SF := (sRet (eAnd (e1 (isiD "bool") (eVar 1)) (eAnd (e1 (isiD "bool") (eVar 0)) (e2 eqD (eVar 0) (eVar 1)))))
def C_law_same_3 (D_rec : List D → Res D) : SF := (sRet (eAnd (e1 (isiD "str") (eVar 0)) (e2 eqD (eVar 0) (eVar 1))))
def D_law_same : Nat → List D → Res D
  | 0 => fnD 4 2 sStuck
  | n + 1 => fnD 4 2 (sSeq (sIf (E3.tB (e1 (isiTD ["tuple", "list"]) (eVar 1))) (C_law_same_1 (D_law_same n)) sNil)
  (sSeq (sIf (E3.tOr (E3.tB (e1 (isiD "bool") (eVar 1))) (E3.tB (e1 (isiD "bool") (eVar 0)))) (C_law_same_2 (D_law_same n)) sNil)
  (sSeq (sIf (E3.tB (e1 (isiD "str") (eVar 1))) (C_law_same_3 (D_law_same n)) sNil)
  (sRet (eAnd (e1 (isiD "int") (eVar 0)) (e2 eqD (eVar 0) (eVar 1)))))))
theorem p12 : (10 : Int) ^ Int.toNat 12 = 1000000000000 := rfl
theorem p6 : (10 : Int) ^ Int.toNat 6 = 1000000 := rfl
theorem leL (k : Nat) (h : k ≤ 1000) : (k ≤ sizeLine) = True := eq_true (by rw [sizeLine_eq]; omega)
theorem ix_mem (xs : List D) {g : Int} (h0 : 0 ≤ g) (h1 : g < (xs.length : Nat)) : ∃ d ∈ xs, ixD (.list xs) (.int g) = .ok d := by
  have hk : g.toNat < xs.length := by omega
  have em : g = (g.toNat : Nat) := by omega
  refine ⟨xs[g.toNat], List.getElem_mem hk, ?_⟩
  have h := (ix_at (List.getElem?_eq_getElem hk)).2
  rw [← em] at h
  exact h
theorem take_ok {n m : Int} (h0 : 0 ≤ n) (hm : 0 < m) (hl : m < 1000000000000000000000000000000000000000001) : D_law_take [.int n] [.int m] = .ok (.int (n % m), [.int (n / m)]) ∧ (0 ≤ n % m ∧ n % m < m) ∧ 0 ≤ n / m := by
  refine ⟨?_, H6.emod5 m hm, Int.ediv_nonneg h0 (by omega)⟩
  have hl2 : m.natAbs.log2 < 9000 := log2_lt 140 (by omega) (by decide) hm
  have e1 : modD (.int n) (.int m) = .ok (.int (n % m)) := modI hm
  have e2 : fdivD (.int n) (.int m) = .ok (.int (n / m)) := fdivI hm hl2
  unfold D_law_take
  walk_at "ev"
  try (rw [e1]; walk_at "ev")
  try (rw [e2]; walk_at "ev")
  rfl
theorem deal_turn (c number one many : Int) (k b : Nat) (x5 : Option Slot) (hk : k < 1000) (hg : 0 ≤ number ∧ number < 2 ^ b) (ho : 0 ≤ one ∧ one < 8589934592) (hb : b < 900000) : ∃ number' one' two' : Int, (0 ≤ number' ∧ number' < 2 ^ (b + 16)) ∧ (0 ≤ one' ∧ one' < 8589934592) ∧
    B_law_deal_1 [some (.sh (.int c)), some (.sh (.int many)), some (.sh (.int number)), some (.sh (.int one)), some (.sh (.int (k : Nat))), x5] = .ok .nx [some (.sh (.int c)), some (.sh (.int many)), some (.sh (.int number')), some (.sh (.int one')), some (.sh (.int (k : Nat))), some (.sh (.int two'))] := by
  have hkI : (0 : Int) ≤ (k : Nat) ∧ ((k : Nat) : Int) < 1000 := by omega
  generalize ((k : Nat) : Int) = j at hkI ⊢
  have m1 : mulD (.int one) (.int 48271) = .ok (.int (one * 48271)) := mulB 40 20 (by omega) (by omega) (by decide)
  have m2 : mulD (.int 7919) (.int j) = .ok (.int (7919 * j)) := mulB 20 20 (by omega) (by omega) (by decide)
  have m3 : mulD (.int (7919 * j)) (.int j) = .ok (.int (7919 * j * j)) := mulB 40 20 (by omega) (by omega) (by decide)
  have r0 := Int.emod_nonneg (one * 48271 + 7919 * j * j + 104729) (show (2147483647 : Int) ≠ 0 by decide)
  have r1 := Int.emod_lt_of_pos (one * 48271 + 7919 * j * j + 104729) (show (0 : Int) < 2147483647 by decide)
  generalize h1 : (one * 48271 + 7919 * j * j + 104729) % 2147483647 = y at r0 r1
  have m4 : mulD (.int y) (.int y) = .ok (.int (y * y)) := mulB 40 40 (by omega) (by omega) (by decide)
  have s0 := Int.emod_nonneg (y * y) (show (2147483629 : Int) ≠ 0 by decide)
  generalize h2 : y * y % 2147483629 = z at s0
  have hp : (0 : Int) < 2 ^ b := Int.pow_pos (by decide)
  have m5 : mulD (.int number) (.int 65536) = .ok (.int (number * 65536)) := mulB b 20 (by omega) (by omega) (by omega)
  have t0 := Int.emod_nonneg (z / 512) (show (65536 : Int) ≠ 0 by decide)
  have t1 := Int.emod_lt_of_pos (z / 512) (show (0 : Int) < 65536 by decide)
  have e2 : (2 : Int) ^ (b + 16) = 2 ^ b * 65536 := by rw [Int.pow_add]; rfl
  refine ⟨number * 65536 + z / 512 % 65536, y, z, ⟨by omega, by omega⟩, ⟨r0, by omega⟩, ?_⟩
  unfold B_law_deal_1
  walk_at "ev"
  rw [m1]
  walk_at "ev"
  rw [m2]
  walk_at "ev"
  rw [m3]
  walk_at "ev"
  rw [h1]
  try walk_at "ev"
  rw [m4]
  walk_at "ev"
  rw [h2]
  try walk_at "ev"
  rw [m5]
  walk_at "ev"
theorem deal_ok (c : Int) (m : Int) (hm : 0 ≤ m ∧ m ≤ 500) : ∃ n : Int, 0 ≤ n ∧ D_law_deal [.int c, .int m] = .ok (.int n) := by
  by_cases hc : (1000000000000000000 : Int) ≤ c
  · refine ⟨c - 10 ^ 18, by omega, ?_⟩
    unfold D_law_deal C_law_deal_1
    walk_at "ev"
    have e : decide ((10 : Int) ^ Int.toNat 18 ≤ c) = true := decide_eq_true (by show (10 : Int) ^ 18 ≤ c; omega)
    rw [e]
    walk_at "ev"
    rfl
  · have c0 := Int.emod_nonneg c (show (2147483647 : Int) ≠ 0 by decide)
    have c1 := Int.emod_lt_of_pos c (show (0 : Int) < 2147483647 by decide)
    obtain ⟨σ', e, number, one, x4, x5, hg, ho, rfl⟩ := forS_pre (p := gN 4) (body := B_law_deal_1) (g := fun k : Nat => PyData.int (k : Nat))
      (Inv := fun pre σ => ∃ (number one : Int) (x4 x5 : Option Slot), (0 ≤ number ∧ number < 2 ^ (16 * pre.length)) ∧ (0 ≤ one ∧ one < 8589934592) ∧
        σ = [some (.sh (.int c)), some (.sh (.int m)), some (.sh (.int number)), some (.sh (.int one)), x4, x5]) (List.range m.toNat)
      [some (.sh (.int c)), some (.sh (.int m)), some (.sh (.int 0)), some (.sh (.int (c % 2147483647 + 16807))), none, none]
      ⟨0, _, none, none, ⟨by omega, by decide⟩, ⟨by omega, by omega⟩, rfl⟩ (by
      rintro pre k post σ he ⟨number, one, x4, x5, hg, ho, rfl⟩
      have hk : k < m.toNat := List.mem_range.mp (by rw [he]; simp)
      have hl : pre.length < m.toNat := by
        have := congrArg List.length he
        rw [List.length_range, List.length_append, List.length_cons] at this
        omega
      obtain ⟨number', one', two', h1, h2, h3⟩ := deal_turn c number one m k (16 * pre.length) x5 (by omega) hg ho (by omega)
      refine ⟨_, _, rfl, .inl h3, number', one', some (.sh (.int (k : Nat))), some (.sh (.int two')), ⟨h1.1, ?_⟩, h2, rfl⟩
      rw [List.length_append, List.length_singleton, Nat.mul_add, Nat.mul_one]
      exact h1.2)
    refine ⟨number, hg.1, ?_⟩
    have it : ∀ a b c d e : Option D, I_law_deal_1 [a, some (.int m), b, c, d, e] = .ok ((List.range m.toNat).map fun k : Nat => PyData.int (k : Nat)) := fun _ _ _ _ _ => rng1_nat (m := m) hm.1 (by omega)
    have e1 : decide ((10 : Int) ^ Int.toNat 18 ≤ c) = false := decide_eq_false (by show ¬ (10 : Int) ^ 18 ≤ c; omega)
    have md : modD (.int c) (.int 2147483647) = .ok (.int (c % 2147483647)) := modI (by decide)
    unfold D_law_deal
    generalize I_law_deal_1 = I at *
    generalize B_law_deal_1 = B at *
    generalize C_law_deal_1 = C at *
    walk_at "ev"
    rw [e1]
    walk_at "ev"
    try (rw [md]; walk_at "ev")
    rw [it]
    walk_at "ev"
    rw [e]
    walk_at "ev"
theorem far_ok (n : Int) (hn : 0 ≤ n) (w : Int) (hw : 0 ≤ w ∧ w ≤ 1000000) : ∃ n' r : Int, 0 ≤ n' ∧ (-w ≤ r ∧ r ≤ w) ∧ D_law_take [.int n] [.int (2 * w + 1)] = .ok (.int (r + w), [.int n']) := by
  obtain ⟨e, h1, h2⟩ := take_ok (m := 2 * w + 1) hn (by omega) (by omega)
  refine ⟨n / (2 * w + 1), n % (2 * w + 1) - w, h2, by omega, ?_⟩
  rw [e, show n % (2 * w + 1) - w + w = n % (2 * w + 1) by omega]
theorem step_ok (n : Int) (hn : 0 ≤ n) : PQ (D_law_step [.int n] []) fun d => ∃ s : Int × Int, inM s ∧ d = cellD s := by
  obtain ⟨e1, r1, h1⟩ := take_ok (m := 4) hn (by decide) (by decide)
  generalize n / 4 = n1 at *
  generalize n % 4 = g at *
  obtain ⟨f, e2, hf⟩ := ix4 1 2 3 1000000 r1.1 r1.2
  have hf2 : 0 ≤ f ∧ f ≤ 1000000 := by omega
  obtain ⟨n2, r, hn2, hr, e3⟩ := far_ok n1 h1 f hf2
  obtain ⟨n3, c, hn3, hc, e4⟩ := far_ok n2 hn2 f hf2
  have m1 : mulD (.int 2) (.int f) = .ok (.int (2 * f)) := mulB 10 30 (by omega) (by omega) (by decide)
  refine ⟨cellD (r, c), n3, ?_, hn3, (r, c), ⟨by show _ ≤ r ∧ r ≤ _; omega, by show _ ≤ c ∧ c ≤ _; omega⟩, rfl⟩
  have a1 : r + f - f = r := by omega
  have a2 : c + f - f = c := by omega
  unfold D_law_step
  generalize D_law_take = T at *
  walk_at "ev"
  rw [e1]
  walk_at "ev"
  try rw [p6]
  rw [e2]
  walk_at "ev"
  rw [m1]
  walk_at "ev"
  rw [e3]
  walk_at "ev"
  rw [a1]
  try (rw [m1]; walk_at "ev")
  rw [e4]
  walk_at "ev"
  rw [a2]
  try rfl
def farC (p : Int × Int) : Prop := (-1000000000000 ≤ p.1 ∧ p.1 ≤ 1000000000000) ∧ (-1000000000000 ≤ p.2 ∧ p.2 ≤ 1000000000000)
theorem place_ok (n : Int) (hn : 0 ≤ n) (w : Int) : ∃ r n', 0 ≤ n' ∧ (r = 0 ∨ r = 1000000000000 - w ∨ r = w - 1000000000000) ∧ ∃ g, D_law_take [.int n] [.int 5] = .ok (.int g, [.int n']) ∧ ixD (.list [.int 0, .int 0, .int 0, .int (1000000000000 - w), .int (w - 1000000000000)]) (.int g) = .ok (.int r) := by
  obtain ⟨e1, r1, h1⟩ := take_ok (m := 5) hn (by decide) (by decide)
  obtain ⟨d, hd, e⟩ := ix_mem [.int 0, .int 0, .int 0, .int (1000000000000 - w), .int (w - 1000000000000)] r1.1 r1.2
  simp only [List.mem_cons, List.not_mem_nil, or_false] at hd
  rcases hd with h | h | h | h | h <;> subst h
  · exact ⟨_, _, h1, .inl rfl, _, e1, e⟩
  · exact ⟨_, _, h1, .inl rfl, _, e1, e⟩
  · exact ⟨_, _, h1, .inl rfl, _, e1, e⟩
  · exact ⟨_, _, h1, .inr (.inl rfl), _, e1, e⟩
  · exact ⟨_, _, h1, .inr (.inr rfl), _, e1, e⟩
theorem many_ok (n : Int) (hn : 0 ≤ n) : ∃ r n', 0 ≤ n' ∧ (0 ≤ r ∧ r ≤ 20) ∧ ∃ g, D_law_take [.int n] [.int 8] = .ok (.int g, [.int n']) ∧ ixD (.list [.int 0, .int 1, .int 2, .int 3, .int 5, .int 8, .int 12, .int 20]) (.int g) = .ok (.int r) := by
  obtain ⟨e1, r1, h1⟩ := take_ok (m := 8) hn (by decide) (by decide)
  obtain ⟨d, hd, e⟩ := ix_mem [.int 0, .int 1, .int 2, .int 3, .int 5, .int 8, .int 12, .int 20] r1.1 r1.2
  simp only [List.mem_cons, List.not_mem_nil, or_false] at hd
  rcases hd with h | h | h | h | h | h | h | h <;> subst h <;> exact ⟨_, _, h1, by decide, _, e1, e⟩
theorem shape_turn (n many w row col : Int) (R : List (Int × Int)) (x6 x7 : Option Slot) (hn : 0 ≤ n) (hw : 0 ≤ w ∧ w ≤ 1000000) (hl : R.length ≤ 500) : ∃ (n' : Int) (q : Int × Int) (y7 : Option Slot), 0 ≤ n' ∧ (row - w ≤ q.1 ∧ q.1 ≤ row + w) ∧ (col - w ≤ q.2 ∧ q.2 ≤ col + w) ∧
    B_law_shape_1 [some (.ow (.list [.int n])), some (.sh (.int many)), some (.sh (.int w)), some (.sh (.int row)), some (.sh (.int col)), some (.ow (.list (R.map cellD))), x6, x7] = .ok .nx [some (.ow (.list [.int n'])), some (.sh (.int many)), some (.sh (.int w)), some (.sh (.int row)), some (.sh (.int col)), some (.ow (.list ((R ++ [q]).map cellD))), x6, y7] := by
  obtain ⟨n2, r, hn2, hr, e3⟩ := far_ok n hn w hw
  obtain ⟨n3, c, hn3, hc, e4⟩ := far_ok n2 hn2 w hw
  have m1 : mulD (.int 2) (.int w) = .ok (.int (2 * w)) := mulB 10 30 (by omega) (by omega) (by decide)
  have a1 : row + (r + w) - w = row + r := by omega
  have a2 : col + (c + w) - w = col + c := by omega
  have ap : appendM (R.map cellD) [.tuple [.int (row + r), .int (col + c)]] = some (.none, (R ++ [(row + r, col + c)]).map cellD) := by
    show (if _ then _ else _) = _
    rw [if_pos (by rw [List.length_map, sizeLine_eq]; omega), List.map_append]
    rfl
  refine ⟨n3, (row + r, col + c), some (.sh (.int (row + r))), hn3, by show row - w ≤ row + r ∧ row + r ≤ row + w; omega, by show col - w ≤ col + c ∧ col + c ≤ col + w; omega, ?_⟩
  unfold B_law_shape_1
  generalize D_law_take = T at *
  walk_at "ev"
  rw [m1]
  walk_at "ev"
  rw [e3]
  walk_at "ev"
  rw [a1]
  try walk_at "ev"
  simp only [qMut, ownL, List.getElem?_cons_zero, List.getElem?_cons_succ]
  walk_at "ev"
  try (rw [m1]; walk_at "ev")
  rw [e4]
  walk_at "ev"
  rw [a2]
  try walk_at "ev"
  rw [ap]
  simp only [mutK, List.getElem?_cons_zero, List.getElem?_cons_succ]
  walk_at "ev"
theorem shape_tail (n : Int) (hn : 0 ≤ n) (R : List (Int × Int)) (hl : R.length ≤ 63) (x1 x2 x3 x4 x6 x7 : Option Slot) : ∃ (n' : Int) (b : Bool) (σ' : SS), 0 ≤ n' ∧ T_law_shape_1 [some (.ow (.list [.int n])), x1, x2, x3, x4, some (.ow (.list (R.map cellD))), x6, x7] = .ok (.rt (shp (srt R) b)) (some (.ow (.list [.int n'])) :: σ') := by
  obtain ⟨e1, r1, h1⟩ := take_ok (m := 2) hn (by decide) (by decide)
  have s := sortSet_srt R hl
  have t : tupleD [.list ((srt R).map cellD)] = .ok (.tuple ((srt R).map cellD)) := rfl
  refine ⟨n / 2, (n % 2 == 1), [x1, x2, x3, x4, some (.sh (.list (R.map cellD))), x6, x7], h1, ?_⟩
  show _ = SR.ok (.rt (.tuple [.tuple ((srt R).map cellD), .bool (n % 2 == 1)])) _
  unfold T_law_shape_1
  generalize D_law_take = T at *
  generalize R.map cellD = RR at *
  generalize (srt R).map cellD = SS at *
  walk_at "ev"
  rw [s]
  walk_at "ev"
  try (rw [t]; walk_at "ev")
  rw [e1]
  walk_at "ev"
theorem shape_ok (n : Int) (hn : 0 ≤ n) : PQ (D_law_shape [.int n] []) fun d => ∃ (P : List (Int × Int)) (b : Bool), P.Pairwise ltP ∧ P.length ≤ 20 ∧ (∀ p ∈ P, farC p) ∧ d = shp P b := by
  obtain ⟨many, n1, hn1, hm, g1, e1, i1⟩ := many_ok n hn
  obtain ⟨e2, r2, hn2⟩ := take_ok (m := 4) hn1 (by decide) (by decide)
  generalize n1 / 4 = n2 at *
  generalize n1 % 4 = g2 at *
  obtain ⟨w, i2, hw⟩ := ix4 1 2 3 5 r2.1 r2.2
  have hw2 : 0 ≤ w ∧ w ≤ 1000000 := by omega
  obtain ⟨row, n3, hn3, hrow, g3, e3, i3⟩ := place_ok n2 hn2 w
  obtain ⟨col, n4, hn4, hcol, g4, e4, i4⟩ := place_ok n3 hn3 w
  obtain ⟨σ', e, n5, R, x6, x7, hn5, hR, hRm, rfl⟩ := forS_pre (p := gN 6) (body := B_law_shape_1) (g := fun k : Nat => PyData.int (k : Nat))
    (Inv := fun pre σ => ∃ (n5 : Int) (R : List (Int × Int)) (x6 x7 : Option Slot), 0 ≤ n5 ∧ R.length = pre.length ∧ (∀ p ∈ R, farC p) ∧
      σ = [some (.ow (.list [.int n5])), some (.sh (.int many)), some (.sh (.int w)), some (.sh (.int row)), some (.sh (.int col)), some (.ow (.list (R.map cellD))), x6, x7]) (List.range many.toNat)
    [some (.ow (.list [.int n4])), some (.sh (.int many)), some (.sh (.int w)), some (.sh (.int row)), some (.sh (.int col)), some (.ow (.list [])), none, none] ⟨n4, [], none, none, hn4, rfl, (fun p hp => by cases hp), rfl⟩ (by
      rintro pre k post σ he ⟨n5, R, x6, x7, hn5, hR, hRm, rfl⟩
      have hl : pre.length ≤ 20 := by
        have := congrArg List.length he
        rw [List.length_range, List.length_append, List.length_cons] at this
        omega
      obtain ⟨n6, q, y7, hn6, h1, h2, e⟩ := shape_turn n5 many w row col R (some (.sh (.int (k : Nat)))) x7 hn5 hw2 (by omega)
      refine ⟨_, _, rfl, .inl e, n6, R ++ [q], _, _, hn6, by rw [List.length_append, List.length_append, hR]; rfl, fun p hp => ?_, rfl⟩
      rcases List.mem_append.mp hp with z | z
      · exact hRm p z
      · rw [List.mem_singleton.mp z]
        exact ⟨by omega, by omega⟩)
  rw [List.length_range] at hR
  obtain ⟨n6, b, σ2, hn6, e6⟩ := shape_tail n5 hn5 R (by omega) (some (.sh (.int many))) (some (.sh (.int w))) (some (.sh (.int row))) (some (.sh (.int col))) x6 x7
  refine ⟨shp (srt R) b, n6, ?_, hn6, srt R, b, pw_srt R, Nat.le_trans (srt_len R) (by omega), fun p hp => hRm p (mem_srt.mp hp), rfl⟩
  have it : ∀ a b c d e f g : Option D, I_law_shape_1 [a, some (.int many), b, c, d, e, f, g] = .ok ((List.range many.toNat).map fun k : Nat => PyData.int (k : Nat)) := fun _ _ _ _ _ _ _ => rng1_nat (m := many) hm.1 (by omega)
  generalize shp (srt R) b = SR at *
  unfold D_law_shape
  generalize T_law_shape_1 = TL at *
  generalize B_law_shape_1 = B at *
  generalize I_law_shape_1 = I at *
  generalize D_law_take = T at *
  walk_at "ev"
  simp only [leL 8 (by decide)]
  walk_at "ev"
  rw [e1]
  walk_at "ev"
  rw [i1]
  walk_at "ev"
  rw [e2]
  walk_at "ev"
  rw [i2]
  walk_at "ev"
  simp only [p12]
  rw [e3]
  walk_at "ev"
  rw [i3]
  walk_at "ev"
  try simp only [p12]
  rw [e4]
  walk_at "ev"
  rw [i4]
  walk_at "ev"
  rw [it]
  walk_at "ev"
  rw [e]
  walk_at "ev"
  rw [e6]
  walk_at "ev"
def okS : Nat → D → Prop
  | 0, _ => False
  | n + 1, d => (∃ i, d = .int i) ∨ (∃ b, d = .bool b) ∨ (∃ s, d = .str s ∧ eqD (.str s) (.str s) = .ok (.bool true)) ∨ (∃ l, d = .tuple l ∧ l.length ≤ 100000 ∧ ∀ x ∈ l, okS n x) ∨ ∃ l, d = .list l ∧ l.length ≤ 100000 ∧ ∀ x ∈ l, okS n x
theorem zip_self : ∀ l : List D, zipD l l = l.map fun x => .tuple [x, x]
  | [] => rfl
  | x :: l => by show _ :: zipD l l = _; rw [zip_self l]; rfl
theorem all_true : ∀ l : List D, allD [.list (l.map fun _ => PyData.bool true)] = .ok (.bool true) := fun l => by
  have h := all_bools (l.map fun _ => true)
  rw [List.map_map] at h
  have e : (l.map fun _ => true).all id = true := by simp
  rw [e] at h
  exact h
theorem sames {n : Nat} {l : List D} (h : ∀ x ∈ l, D_law_same n [x, x] = .ok (.bool true)) (a b : Option D) : lcD (gT 2 (gsCons (gN 2) (gsCons (gN 3) gsNil))) tYesD (eCall (D_law_same n) (aCons (eVar 2) (aCons (eVar 3) aNil))) [a, b, none, none] (l.map fun x => .tuple [x, x]) = .ok (l.map fun _ => .bool true) :=
  lc_of (g := fun x : D => .tuple [x, x]) (q := fun _ => PyData.bool true) l fun x hx => ⟨[a, b, some x, some x], by cases a <;> cases b <;> rfl, rfl, h x hx⟩
def zE (n : Nat) : DS → Res D := eLc (fun σ => ((aCons (eVar 0) (aCons (eVar 1) aNil)) σ).bind zipR) (gT 2 (gsCons (gN 2) (gsCons (gN 3) gsNil))) [2, 3] tYesD (eCall (D_law_same n) (aCons (eVar 2) (aCons (eVar 3) aNil)))
theorem zE_ok {n : Nat} {l : List D} (hl : l.length ≤ 100000) (h : ∀ x ∈ l, D_law_same n [x, x] = .ok (.bool true)) (t : D) (ht : t = .tuple l ∨ t = .list l) : zE n [some t, some t, none, none] = .ok (.list (l.map fun _ => .bool true)) := by
  have hz : zipR [t, t] = .ok (l.map fun x => .tuple [x, x]) := by
    rcases ht with z | z <;> subst z <;> (show Res.ok (zipD l l) = _; rw [zip_self])
  unfold zE eLc
  dsimp only
  show (Res.bind (zipR [t, t]) _) = _
  rw [hz]
  show (if _ then _ else _) = _
  rw [if_pos (by rw [List.length_map, sizeLine_eq]; omega)]
  show (Res.bind (lcD _ _ _ [some t, some t, none, none] _) _) = _
  rw [sames h]
  rfl
theorem s1_q (n : Nat) : C_law_same_1 (D_law_same n) = (sSeq (sIf (E3.tOr (tB (e2 neD (e1 (isiD "tuple") (eVar 0)) (e1 (isiD "tuple") (eVar 1)))) (E3.tNot (E3.tB (e1 (isiTD ["tuple", "list"]) (eVar 0))))) (sRet (eC (.bool false))) sNil)
  (sRet (eAnd (e2 eqD (eCall lenD (aCons (eVar 0) aNil)) (eCall lenD (aCons (eVar 1) aNil))) (eCall allD (aCons (zE n) aNil))))) := rfl
theorem row_same {n : Nat} {l : List D} (hl : l.length ≤ 100000) (h : ∀ x ∈ l, D_law_same n [x, x] = .ok (.bool true)) (t : D) (ht : t = .tuple l ∨ t = .list l) : D_law_same (n + 1) [t, t] = .ok (.bool true) := by
  have e1 : isiTD ["tuple", "list"] t = .ok (.bool true) := by rcases ht with z | z <;> subst z <;> rfl
  obtain ⟨b, e2⟩ : ∃ b, isiD "tuple" t = .ok (.bool b) := by rcases ht with z | z <;> subst z <;> exact ⟨_, rfl⟩
  have e3 : neD (.bool b) (.bool b) = .ok (.bool false) := by cases b <;> rfl
  have e4 : lenD [t] = .ok (.int (l.length : Nat)) := by rcases ht with z | z <;> subst z <;> rfl
  have e5 := zE_ok hl h t ht
  have e6 := all_true l
  have e7 : eqD (.int (l.length : Nat)) (.int (l.length : Nat)) = .ok (.bool true) := by rw [eqI]; simp
  unfold D_law_same
  rw [s1_q]
  generalize PyData.list (l.map fun _ => PyData.bool true) = L at *
  generalize PyData.int ((l.length : Nat) : Int) = m at *
  generalize zE n = Z at *
  generalize C_law_same_2 (D_law_same n) = C2 at *
  generalize C_law_same_3 (D_law_same n) = C3 at *
  walk_at "ev"
  rw [e1]
  walk_at "ev"
  rw [e2]
  walk_at "ev"
  rw [e3]
  walk_at "ev"
  try (rw [e1]; walk_at "ev")
  rw [e4]
  walk_at "ev"
  rw [e7]
  walk_at "ev"
  rw [e5]
  walk_at "ev"
  rw [e6]
  try walk_at "ev"
theorem same_refl : ∀ (n : Nat) (d : D), okS n d → D_law_same n [d, d] = .ok (.bool true)
  | 0, _, h => h.elim
  | n + 1, d, h => by
    rcases h with ⟨i, rfl⟩ | ⟨b, rfl⟩ | ⟨s, rfl, hs⟩ | ⟨l, rfl, hl, h⟩ | ⟨l, rfl, hl, h⟩
    · have e1 : isiTD ["tuple", "list"] (.int i) = .ok (.bool false) := rfl
      have e2 : eqD (.int i) (.int i) = .ok (.bool true) := by rw [eqI]; simp
      unfold D_law_same
      generalize C_law_same_1 (D_law_same n) = C1
      generalize C_law_same_2 (D_law_same n) = C2
      generalize C_law_same_3 (D_law_same n) = C3
      walk_at "ev"
      rw [e1]
      walk_at "ev"
      try (rw [e2]; try walk_at "ev")
    · cases b <;> rfl
    · have e1 : isiTD ["tuple", "list"] (.str s) = .ok (.bool false) := rfl
      unfold D_law_same C_law_same_3
      generalize C_law_same_1 (D_law_same n) = C1
      generalize C_law_same_2 (D_law_same n) = C2
      walk_at "ev"
      rw [e1]
      walk_at "ev"
      rw [hs]
      try walk_at "ev"
    · exact row_same hl (fun x hx => same_refl n x (h x hx)) _ (.inl rfl)
    · exact row_same hl (fun x hx => same_refl n x (h x hx)) _ (.inr rfl)
theorem okS_int {n : Nat} (i : Int) : okS (n + 1) (.int i) := .inl ⟨i, rfl⟩
theorem okS_bool {n : Nat} (i : Bool) : okS (n + 1) (.bool i) := .inr (.inl ⟨i, rfl⟩)
theorem okS_cell {n : Nat} (p : Int × Int) : okS (n + 2) (cellD p) := .inr (.inr (.inr (.inl ⟨_, rfl, by show 2 ≤ 100000; decide, fun x hx => by
  simp only [List.mem_cons, List.not_mem_nil, or_false] at hx
  rcases hx with z | z <;> subst z <;> exact okS_int _⟩)))
theorem okS_tupC {n : Nat} (P : List (Int × Int)) (hl : P.length ≤ 100000) : okS (n + 3) (tupC P) := .inr (.inr (.inr (.inl ⟨_, rfl, by rw [List.length_map]; exact hl, fun x hx => by
  obtain ⟨p, _, rfl⟩ := List.mem_map.mp hx
  exact okS_cell p⟩)))
theorem okS_shp {n : Nat} (P : List (Int × Int)) (b : Bool) (hl : P.length ≤ 100000) : okS (n + 4) (shp P b) := .inr (.inr (.inr (.inl ⟨_, rfl, by show 2 ≤ 100000; decide, fun x hx => by
  simp only [List.mem_cons, List.not_mem_nil, or_false] at hx
  rcases hx with z | z
  · subst z; exact okS_tupC P hl
  · subst z; exact okS_bool _⟩)))
theorem same_shp (P : List (Int × Int)) (b : Bool) (hl : P.length ≤ 100000) : D_law_same 64 [shp P b, shp P b] = .ok (.bool true) := same_refl 64 _ (okS_shp P b hl)
theorem same_cell (p : Int × Int) : D_law_same 64 [cellD p, cellD p] = .ok (.bool true) := same_refl 64 _ (okS_cell p)
end H30

namespace H6
open PySem PySem.Spec PyProof.Rows L2 E3
local macro_rules | `(tactic| walk_at "ev") => `(tactic| try simp (disch := first | decide | decide +kernel | omega) only [fnD, startF, endF, sSeq, sAsg, sSet, sSetV, sAsgV, sIf, sRet, sNew, sNewV, sMut, sMutV, sFor, sForR, sFreeze, sNil, sExpr, optK, thenR_ok, thenR_exc, thenR_stuck,
  view, mask, E3.eVar_zero, E3.eVar_succ, eC, e1, e2, eCall, eTup, eLst, eSl, oNone, oSome, eAnd, eOr, eIf, E3.tAnd, E3.tOr, E3.tNot, E3.tB, asB, notD, aNil, aCons, Res.bind_ok, Res.bind_exc, Res.bind_stuck,
  gT, gsCons, gsNil, gN, tupD, lstD, Slot.dat, Slot.shd, List.length_cons, List.length_nil, List.map_cons, List.map_nil, List.replicate, List.append_nil, List.cons_append, List.nil_append, Option.map_some, Option.map_none, Option.bind_some, Option.bind_none,
  List.getElem?_cons_zero, List.getElem?_cons_succ, List.set_cons_zero, List.set_cons_succ, Nat.reduceAdd, Nat.reduceSub, Nat.reduceEqDiff, if_true, if_false, ite_true, ite_false, reduceIte, decide_true, decide_false, reduceCtorEq, Bool.not_true, Bool.not_false, Bool.false_eq_true, Bool.true_eq_false, Bool.or_true, Bool.true_or, Bool.false_or, Bool.or_false, Bool.and_true, Bool.and_false, Bool.true_and, Bool.false_and, addI, subI, ltI, leI, gtI, geI, eqI, neI, E3.negI, ix_cell0, ix_cell1, E3.le0, E3.le1, E3.le2, E3.le3, E3.le4, E3.le5, E3.le6, beq_self_eq_true, Int.reduceBEq, E3.divmodI, E3.modI, E3.fdivI, E3.powL, E3.mulLL, E3.isi_bool_none, E3.isi_bool_bool, E3.isi_bool_int, E3.isi_bool_str, E3.isi_bool_list, E3.isi_bool_tuple, E3.isi_int_none, E3.isi_int_bool, E3.isi_int_int, E3.isi_int_str, E3.isi_int_list, E3.isi_int_tuple, E3.isi_str_none, E3.isi_str_bool, E3.isi_str_int, E3.isi_str_str, E3.isi_str_list, E3.isi_str_tuple, E3.isi_list_none, E3.isi_list_bool, E3.isi_list_int, E3.isi_list_str, E3.isi_list_list, E3.isi_list_tuple, E3.isi_tuple_none, E3.isi_tuple_bool, E3.isi_tuple_int, E3.isi_tuple_str, E3.isi_tuple_list, E3.isi_tuple_tuple, E3.isN_none, E3.ntN_none, E3.isN_bool, E3.ntN_bool, E3.isN_int, E3.ntN_int, E3.isN_str, E3.ntN_str, E3.isN_list, E3.ntN_list, E3.isN_tuple, E3.ntN_tuple, E3.len_list, E3.len_tup, E3.seq_list, E3.seq_tup, E3.tup_list, E3.tup_tup, E3.lst_list, E3.lst_tup, xM, xV, xB, xTB, x2, xAnd, xNil, xCons, xTup, xLst, xCall, xSl, xPot, ownX, potK, XR.bind_ok, XR.bind_exc, XR.bind_stuck, XR.of_ok, XR.of_exc, XR.of_stuck, thenX_ok, thenX_exc, thenX_stuck, qSet, qRet, qIf, qAsg, qForR, qFor, E3.flatR_i, E3.flatR_b, E3.flatR_ii, E3.flatR_c, fnP, startP, endP, fnN, endN, E3.ix_lst0, H6.nextI, Int.cast_ofNat_Int])

theorem fold_len : ∀ (l qs : List (Int × Int)), (l.foldl addC qs).length ≤ qs.length + l.length
  | [], qs => Nat.le_refl _
  | a :: l, qs => by
    have := fold_len l (addC qs a)
    have := len_addC qs a
    rw [List.foldl_cons, List.length_cons]; omega
theorem puts_loop {α : Type} {p : GF} {body : SF} {g : α → D} {S : List (Int × Int) → SS → Prop} (F : α → List (Int × Int)) (m top : Nat) : ∀ (l : List α), (∀ a ∈ l, (F a).length ≤ m) →
    (∀ a ∈ l, ∀ (qs : List (Int × Int)) (σ : SS), S qs σ → qs.length + m ≤ top → ∃ σ1 σ2, p (g a) σ = some σ1 ∧ body σ1 = .ok .nx σ2 ∧ S ((F a).foldl addC qs) σ2) →
    ∀ (qs : List (Int × Int)) (σ : SS), S qs σ → qs.length + l.length * m ≤ top → ∃ σ', forS p body (l.map g) σ = .ok .nx σ' ∧ S ((l.flatMap F).foldl addC qs) σ'
  | [], _, _, qs, σ, h, _ => ⟨σ, rfl, h⟩
  | a :: l, hF, k, qs, σ, h, ht => by
    rw [List.length_cons, Nat.add_mul, Nat.one_mul] at ht
    obtain ⟨σ1, σ2, e1, e2, h2⟩ := k a List.mem_cons_self qs σ h (by omega)
    have l1 := fold_len (F a) qs
    have l2 := hF a List.mem_cons_self
    obtain ⟨σ3, e3, h3⟩ := puts_loop F m top l (fun b hb => hF b (List.mem_cons_of_mem _ hb)) (fun b hb => k b (List.mem_cons_of_mem _ hb)) _ σ2 h2 (by omega)
    refine ⟨σ3, ?_, by rw [List.flatMap_cons, List.foldl_append]; exact h3⟩
    rw [List.map_cons]
    unfold forS
    rw [e1]
    simp only [e2]
    exact e3
theorem flat_one {α : Type} (f : α → Int × Int) : ∀ l : List α, (l.flatMap fun b => [f b]) = l.map f
  | [] => rfl
  | b :: l => by
    rw [List.flatMap_cons, flat_one f l]; rfl
theorem mem_put {l : List (Int × Int)} {p : Int × Int} : p ∈ l.foldl addC [] ↔ p ∈ l := by
  rw [mem_add_all]; simp
theorem nd_put (l : List (Int × Int)) : (l.foldl addC []).Nodup := (add_all l [] List.nodup_nil).1
theorem srt_put (l : List (Int × Int)) : srt (l.foldl addC []) = srt l := srt_ext fun p => mem_put
theorem cut_take (ds : List D) (n : Nat) : E3.cutD ds none (some (n : Nat)) = ds.take n := by
  unfold E3.cutD
  rw [show HT.sIx ds.length 0 none = 0 from rfl, HT.sIx_nat, List.drop_zero, Nat.sub_zero]
  by_cases h : n ≤ ds.length
  · rw [Nat.min_eq_left h]
  · rw [Nat.min_eq_right (by omega), List.take_length, List.take_of_length_le (by omega)]
theorem take_tup (P : List (Int × Int)) (n : Nat) : slD (tupC P) none (some (n : Nat)) = .ok (tupC (P.take n)) := by
  show Res.ok (PyData.tuple (E3.cutD (P.map cellD) none (some (n : Nat)))) = _
  rw [cut_take, ← List.map_take]
  rfl
theorem take_ne {P : List (Int × Int)} {n : Nat} (h : P ≠ []) (hn : 0 < n) : P.take n ≠ [] := by
  obtain ⟨a, l, rfl⟩ := List.exists_cons_of_ne_nil h
  obtain ⟨k, rfl⟩ := Nat.exists_eq_succ_of_ne_zero (Nat.pos_iff_ne_zero.mp hn)
  simp
def I_law_sums_1 : DS → Res (List D) := (fun σ => ((eVar 1) σ).bind seqOf)
def B_law_sums_1 : SF := (sPut 2 (eTup (aCons (e2 addD (eVar 3) (eVar 5)) (aCons (e2 addD (eVar 4) (eVar 6)) aNil))) (eC (.bool true)))
def I_law_sums_2 : DS → Res (List D) := (fun σ => ((eVar 0) σ).bind seqOf)
def B_law_sums_2 : SF := (sFor I_law_sums_1 (gT 2 (gsCons (gN 5) (gsCons (gN 6) gsNil)))
  B_law_sums_1)
def D_law_sums : List D → Res D := fnD 7 2 (sSeq (sNew 2 (eC (.dict [])))
  (sSeq (sFor I_law_sums_2 (gT 2 (gsCons (gN 3) (gsCons (gN 4) gsNil)))
  B_law_sums_2)
  (sFreeze 2 (sRet (eCall sortAnyD (aCons (eVar 2) aNil))))))

def sums (A B : List (Int × Int)) : List (Int × Int) := A.flatMap fun a => B.map fun b => plusC a b
theorem sums_len (B : List (Int × Int)) : ∀ A : List (Int × Int), (sums A B).length = A.length * B.length
  | [] => by simp [sums]
  | a :: A => by
    have := sums_len B A
    unfold sums at this ⊢
    rw [List.flatMap_cons, List.length_append, List.length_map, this, List.length_cons, Nat.add_mul]
    omega
theorem mem_sums {A B : List (Int × Int)} {p : Int × Int} : p ∈ sums A B ↔ ∃ a ∈ A, ∃ b ∈ B, p = plusC a b := by
  unfold sums
  rw [List.mem_flatMap]
  constructor
  · rintro ⟨a, ha, h⟩
    obtain ⟨b, hb, rfl⟩ := List.mem_map.mp h
    exact ⟨a, ha, b, hb, rfl⟩
  · rintro ⟨a, ha, b, hb, rfl⟩
    exact ⟨a, ha, List.mem_map.mpr ⟨b, hb, rfl⟩⟩
theorem sums_ne {A B : List (Int × Int)} (hA : A ≠ []) (hB : B ≠ []) : sums A B ≠ [] := by
  obtain ⟨a, l, rfl⟩ := List.exists_cons_of_ne_nil hA
  obtain ⟨b, k, rfl⟩ := List.exists_cons_of_ne_nil hB
  intro h
  have : plusC a b ∈ sums (a :: l) (b :: k) := mem_sums.mpr ⟨a, List.mem_cons_self, b, List.mem_cons_self, rfl⟩
  rw [h] at this
  cases this
theorem sums_ok (A B : List (Int × Int)) (hl : A.length * B.length ≤ 9000) (hB : B.length ≤ 1000) : D_law_sums [tupC A, tupC B] = .ok (.list ((srt (sums A B)).map cellD)) := by
  have inner : ∀ (a : Int × Int) (qs : List (Int × Int)) (x5 x6 : Option Slot), qs.length + B.length ≤ 9000 → ∃ y5 y6, B_law_sums_2 [some (.sh (tupC A)), some (.sh (tupC B)), some (.ow (.dict (dctT qs))), some (.sh (.int a.1)), some (.sh (.int a.2)), x5, x6]
      = .ok .nx [some (.sh (tupC A)), some (.sh (tupC B)), some (.ow (.dict (dctT ((B.map fun b => plusC a b).foldl addC qs)))), some (.sh (.int a.1)), some (.sh (.int a.2)), y5, y6] := by
    intro a qs x5 x6 hq
    obtain ⟨σ', e, y5, y6, rfl⟩ := puts_loop (p := gT 2 (gsCons (gN 5) (gsCons (gN 6) gsNil))) (body := B_law_sums_1) (g := cellD)
      (S := fun qs σ => ∃ y5 y6, σ = [some (.sh (tupC A)), some (.sh (tupC B)), some (.ow (.dict (dctT qs))), some (.sh (.int a.1)), some (.sh (.int a.2)), y5, y6]) (fun b => [plusC a b]) 1 9000 B (fun _ _ => Nat.le_refl _) (by
        rintro b hb qs σ ⟨y5, y6, rfl⟩ hq
        refine ⟨[some (.sh (tupC A)), some (.sh (tupC B)), some (.ow (.dict (dctT qs))), some (.sh (.int a.1)), some (.sh (.int a.2)), some (.sh (.int b.1)), some (.sh (.int b.2))], [some (.sh (tupC A)), some (.sh (tupC B)), some (.ow (.dict (dctT (addC qs (plusC a b))))), some (.sh (.int a.1)), some (.sh (.int a.2)), some (.sh (.int b.1)), some (.sh (.int b.2))], rfl, ?_, _, _, rfl⟩
        have e := putS_dct (j := 2) (σ := [some (.sh (tupC A)), some (.sh (tupC B)), some (.ow (.dict (dctT qs))), some (.sh (.int a.1)), some (.sh (.int a.2)), some (.sh (.int b.1)), some (.sh (.int b.2))]) (qs := qs) (p := plusC a b) (by rw [sizeLine_eq]; omega)
        unfold B_law_sums_1
        simp only [sPut, ownD, List.getElem?_cons_zero, List.getElem?_cons_succ]
        walk_at "ev"
        exact e) qs [some (.sh (tupC A)), some (.sh (tupC B)), some (.ow (.dict (dctT qs))), some (.sh (.int a.1)), some (.sh (.int a.2)), x5, x6] ⟨_, _, rfl⟩ (by omega)
    refine ⟨y5, y6, ?_⟩
    have it : ∀ a b c d e f : Option D, I_law_sums_1 [a, some (tupC B), b, c, d, e, f] = .ok (B.map cellD) := fun _ _ _ _ _ _ => rfl
    unfold B_law_sums_2
    walk_at "ev"
    rw [it]
    walk_at "ev"
    rw [e]
    rw [flat_one]
  obtain ⟨σ', e, y3, y4, y5, y6, rfl⟩ := puts_loop (p := gT 2 (gsCons (gN 3) (gsCons (gN 4) gsNil))) (body := B_law_sums_2) (g := cellD)
    (S := fun qs σ => ∃ y3 y4 y5 y6, σ = [some (.sh (tupC A)), some (.sh (tupC B)), some (.ow (.dict (dctT qs))), y3, y4, y5, y6]) (fun a => B.map fun b => plusC a b) B.length 9000 A (fun _ _ => by rw [List.length_map]; exact Nat.le_refl _) (by
      rintro a ha qs σ ⟨y3, y4, y5, y6, rfl⟩ hq
      obtain ⟨z5, z6, e⟩ := inner a qs y5 y6 hq
      exact ⟨_, _, rfl, e, _, _, _, _, rfl⟩) [] [some (.sh (tupC A)), some (.sh (tupC B)), some (.ow (.dict [])), none, none, none, none] ⟨_, _, _, _, rfl⟩ (by simpa using hl)
  have it : ∀ a b c d e f : Option D, I_law_sums_2 [some (tupC A), a, b, c, d, e, f] = .ok (A.map cellD) := fun _ _ _ _ _ _ => rfl
  have sd := sort_dct (nd_put (sums A B))
  rw [srt_put] at sd
  unfold D_law_sums
  walk_at "ev"
  rw [it]
  walk_at "ev"
  rw [show forS (gT 2 (gsCons (gN 3) (gsCons (gN 4) gsNil))) B_law_sums_2 (A.map cellD) [some (.sh (tupC A)), some (.sh (tupC B)), some (.ow (.dict [])), none, none, none, none] = _ from e]
  walk_at "ev"
  rw [show sortAnyD [.dict (dctT ((A.flatMap fun a => B.map fun b => plusC a b).foldl addC []))] = _ from sd]
  walk_at "ev"
end H6

namespace H14
open PySem PySem.Spec PyProof.Rows L2 E3 H6
abbrev D_lies_on := H3.D_lies_on
def I_law_spots_1 : DS → Res (List D) := (fun σ => ((aCons (eC (.int 3)) aNil) σ).bind rng1)
def B_law_spots_1 : SF := (sSeq (qSet 6 (x2 ixD (xM (e2 ixD (eVar 2) (eC (.int 0)))) (xPot 0 D_law_next (xCons (xM (eCall lenD (aCons (e2 ixD (eVar 2) (eC (.int 0))) aNil))) xNil))))
  (sSeq (qSet 7 (x2 ixD (xM (eVar 1)) (xPot 0 D_law_next (xCons (xM (eCall lenD (aCons (eVar 1) aNil))) xNil))))
  (qMut 4 appendM (xCons (xM (eTup (aCons (e2 subD (e2 ixD (eVar 6) (eC (.int 0))) (e2 ixD (eVar 7) (eC (.int 0)))) (aCons (e2 subD (e2 ixD (eVar 6) (eC (.int 1))) (e2 ixD (eVar 7) (eC (.int 1)))) aNil)))) xNil))))
def C_law_spots_1 : SF := (sFor I_law_spots_1 (gN 5)
  B_law_spots_1)
def D_law_spots : PF := fnP 8 4 (sSeq (qNewL 4 (xCons (xM (eVar 3)) (xCons (xTup (xCons (x2 subD (x2 addD (xM (e2 ixD (eVar 3) (eC (.int 0)))) (xPot 0 D_law_next (xCons (xM (eC (.int 9))) xNil))) (xM (eC (.int 4)))) (xCons (x2 subD (x2 addD (xM (e2 ixD (eVar 3) (eC (.int 1)))) (xPot 0 D_law_next (xCons (xM (eC (.int 9))) xNil))) (xM (eC (.int 4)))) xNil))) xNil)))
  (sSeq (qIf (xB (tB (e2 neD (e2 ixD (eVar 2) (eC (.int 0))) (eTup aNil)))) C_law_spots_1 sNil)
  (sFreeze 4 (qRet (xM (eVar 4))))))
def D_has : List D → Res D := fnD 4 2 (sSeq (sAsg (gT 2 (gsCons (gN 2) (gsCons (gN 3) gsNil))) (eVar 0))
  (sRet (e2 neD (e2 inG (eVar 1) (eVar 2)) (eVar 3))))
def D_whole_at : List D → Res D := fnD 4 3 (sRet (eCall allD (aCons (eLc (fun σ => ((eCall D_lies_on (aCons (eVar 1) (aCons (eVar 2) aNil))) σ).bind seqOf) (gN 3) [3] tYesD (eCall D_has (aCons (eVar 0) (aCons (eVar 3) aNil)))) aNil)))
def D_clear_at : List D → Res D := fnD 4 3 (sRet (e1 notD (eCall anyD (aCons (eLc (fun σ => ((eCall D_lies_on (aCons (eVar 1) (aCons (eVar 2) aNil))) σ).bind seqOf) (gN 3) [3] tYesD (eCall D_has (aCons (eVar 0) (aCons (eVar 3) aNil)))) aNil))))
local macro_rules | `(tactic| walk_at "ev") => `(tactic| try simp (disch := first | decide | decide +kernel | omega) only [fnD, startF, endF, sSeq, sAsg, sSet, sSetV, sAsgV, sIf, sRet, sNew, sNewV, sMut, sMutV, sFor, sForR, sFreeze, sNil, sExpr, optK, thenR_ok, thenR_exc, thenR_stuck,
  view, mask, E3.eVar_zero, E3.eVar_succ, eC, e1, e2, eCall, eTup, eLst, eSl, oNone, oSome, eAnd, eOr, eIf, E3.tAnd, E3.tOr, E3.tNot, E3.tB, asB, notD, aNil, aCons, Res.bind_ok, Res.bind_exc, Res.bind_stuck,
  gT, gsCons, gsNil, gN, tupD, lstD, Slot.dat, Slot.shd, List.length_cons, List.length_nil, List.map_cons, List.map_nil, List.replicate, List.append_nil, List.cons_append, List.nil_append, Option.map_some, Option.map_none, Option.bind_some, Option.bind_none,
  List.getElem?_cons_zero, List.getElem?_cons_succ, List.set_cons_zero, List.set_cons_succ, Nat.reduceAdd, Nat.reduceSub, Nat.reduceEqDiff, if_true, if_false, ite_true, ite_false, reduceIte, decide_true, decide_false, reduceCtorEq, Bool.not_true, Bool.not_false, Bool.false_eq_true, Bool.true_eq_false, Bool.or_true, Bool.true_or, Bool.false_or, Bool.or_false, Bool.and_true, Bool.and_false, Bool.true_and, Bool.false_and, addI, subI, ltI, leI, gtI, geI, eqI, neI, E3.negI, ix_cell0, ix_cell1, E3.le0, E3.le1, E3.le2, E3.le3, E3.le4, E3.le5, E3.le6, beq_self_eq_true, Int.reduceBEq, E3.divmodI, E3.modI, E3.fdivI, E3.powL, E3.mulLL, E3.isi_bool_none, E3.isi_bool_bool, E3.isi_bool_int, E3.isi_bool_str, E3.isi_bool_list, E3.isi_bool_tuple, E3.isi_int_none, E3.isi_int_bool, E3.isi_int_int, E3.isi_int_str, E3.isi_int_list, E3.isi_int_tuple, E3.isi_str_none, E3.isi_str_bool, E3.isi_str_int, E3.isi_str_str, E3.isi_str_list, E3.isi_str_tuple, E3.isi_list_none, E3.isi_list_bool, E3.isi_list_int, E3.isi_list_str, E3.isi_list_list, E3.isi_list_tuple, E3.isi_tuple_none, E3.isi_tuple_bool, E3.isi_tuple_int, E3.isi_tuple_str, E3.isi_tuple_list, E3.isi_tuple_tuple, E3.isN_none, E3.ntN_none, E3.isN_bool, E3.ntN_bool, E3.isN_int, E3.ntN_int, E3.isN_str, E3.ntN_str, E3.isN_list, E3.ntN_list, E3.isN_tuple, E3.ntN_tuple, E3.len_list, E3.len_tup, E3.seq_list, E3.seq_tup, E3.tup_list, E3.tup_tup, E3.lst_list, E3.lst_tup, xM, xV, xB, xTB, x2, xAnd, xNil, xCons, xTup, xLst, xCall, xSl, xPot, ownX, potK, XR.bind_ok, XR.bind_exc, XR.bind_stuck, XR.of_ok, XR.of_exc, XR.of_stuck, thenX_ok, thenX_exc, thenX_stuck, qSet, qRet, qIf, qAsg, qForR, qFor, E3.flatR_i, E3.flatR_b, E3.flatR_ii, E3.flatR_c, fnP, startP, endP, fnN, endN, E3.ix_lst0, H6.nextI, Int.cast_ofNat_Int])

theorem len_tc (cs : List (Int × Int)) : lenD [tupC cs] = .ok (.int (cs.length : Nat)) := by
  show Res.ok (PyData.int ((cs.map cellD).length : Nat)) = _
  rw [List.length_map]
theorem pick (cs : List (Int × Int)) (n : Int) (h : cs ≠ []) (hl : cs.length ≤ 10000) : ∃ (m : Int) (p : Int × Int), p ∈ cs ∧ D_law_next [.int n] [.int (cs.length : Nat)] = .ok (.int m, [.int (n / (cs.length : Nat))]) ∧ ixD (tupC cs) (.int m) = .ok (cellD p) := by
  have hp : 0 < ((cs.length : Nat) : Int) := by have := List.length_pos_iff.mpr h; omega
  have e1 := next_ok (n := n) hp (log2_lt 20 (by omega) (by decide) hp)
  have r1 := emod5 (n := n) _ hp
  have hk : (n % ((cs.length : Nat) : Int)).toNat < cs.length := by omega
  refine ⟨_, cs[(n % ((cs.length : Nat) : Int)).toNat], List.getElem_mem hk, e1, ?_⟩
  have hd : (cs.map cellD)[(n % ((cs.length : Nat) : Int)).toNat]? = some (cellD cs[(n % ((cs.length : Nat) : Int)).toNat]) := by rw [List.getElem?_map, List.getElem?_eq_getElem hk]; rfl
  have := (ix_at hd).1
  rw [Int.toNat_of_nonneg r1.1] at this
  exact this
def spInv (P cs : List (Int × Int)) (r : Bool) (lead : Int × Int) (k : Nat) (σ : SS) : Prop := ∃ (n : Int) (ss : List (Int × Int)) (x5 x6 x7 : Option Slot), 0 ≤ n ∧ ss.length = k ∧
  σ = [some (.ow (.list [.int n])), some (.sh (tupC P)), some (.sh (shp cs r)), some (.sh (cellD lead)), some (.ow (.list (ss.map cellD))), x5, x6, x7]
theorem spots_turn (P cs : List (Int × Int)) (r : Bool) (lead : Int × Int) (k : Nat) (σ : SS) (hP : P ≠ []) (hc : cs ≠ []) (hPl : P.length ≤ 1000) (hcl : cs.length ≤ 10000) (hk : k < 1000) (h : spInv P cs r lead k σ) (d : D) :
    ∃ σ1 σ2, gN 5 d σ = some σ1 ∧ B_law_spots_1 σ1 = .ok .nx σ2 ∧ spInv P cs r lead (k + 1) σ2 := by
  obtain ⟨n, ss, x5, x6, x7, hn, hs, rfl⟩ := h
  obtain ⟨m1, c, _, e1, i1⟩ := pick cs n hc hcl
  have h1 : 0 ≤ n / ((cs.length : Nat) : Int) := Int.ediv_nonneg hn (by omega)
  obtain ⟨m2, s, _, e2, i2⟩ := pick P (n / ((cs.length : Nat) : Int)) hP (by omega)
  have h2 : 0 ≤ n / ((cs.length : Nat) : Int) / ((P.length : Nat) : Int) := Int.ediv_nonneg h1 (by omega)
  have l1 := len_tc cs
  have l2 := len_tc P
  have am : appendM (ss.map cellD) [cellD (lessC c s)] = some (.none, (ss ++ [lessC c s]).map cellD) := by
    have : (ss.map cellD).length < sizeLine := by rw [List.length_map, sizeLine_eq]; omega
    simp only [appendM, this, if_true]
    rw [List.map_append]; rfl
  refine ⟨_, [some (.ow (.list [.int (n / ((cs.length : Nat) : Int) / ((P.length : Nat) : Int))])), some (.sh (tupC P)), some (.sh (shp cs r)), some (.sh (cellD lead)), some (.ow (.list ((ss ++ [lessC c s]).map cellD))), some (.sh d), some (.sh (cellD c)), some (.sh (cellD s))], rfl, ?_, _, ss ++ [lessC c s], some (.sh d), some (.sh (cellD c)), some (.sh (cellD s)), h2, by rw [List.length_append, hs]; rfl, rfl⟩
  show B_law_spots_1 [some (.ow (.list [.int n])), some (.sh (tupC P)), some (.sh (.tuple [tupC cs, .bool r])), some (.sh (cellD lead)), some (.ow (.list (ss.map cellD))), some (.sh d), x6, x7] = .ok .nx [some (.ow (.list [.int (n / ((cs.length : Nat) : Int) / ((P.length : Nat) : Int))])), some (.sh (tupC P)), some (.sh (.tuple [tupC cs, .bool r])), some (.sh (cellD lead)), some (.ow (.list ((ss ++ [lessC c s]).map cellD))), some (.sh d), some (.sh (cellD c)), some (.sh (cellD s))]
  generalize tupC cs = T at *
  generalize tupC P = Q at *
  generalize ((cs.length : Nat) : Int) = n1 at *
  generalize ((P.length : Nat) : Int) = n2 at *
  unfold B_law_spots_1
  walk_at "ev"
  rw [l1]
  walk_at "ev"
  rw [e1]
  walk_at "ev"
  rw [i1]
  walk_at "ev"
  rw [l2]
  walk_at "ev"
  rw [e2]
  walk_at "ev"
  rw [i2]
  walk_at "ev"
  simp only [qMut, ownL, List.getElem?_cons_zero, List.getElem?_cons_succ]
  rw [show cellD c = .tuple [.int c.1, .int c.2] from rfl, show cellD s = .tuple [.int s.1, .int s.2] from rfl]
  walk_at "ev"
  rw [show appendM (ss.map cellD) [.tuple [.int (c.1 - s.1), .int (c.2 - s.2)]] = _ from am]
  simp only [mutK, List.getElem?_cons_zero, List.getElem?_cons_succ]
  walk_at "ev"
theorem ne_nilT (l : List (Int × Int)) : neD (.tuple (l.map cellD)) (.tuple []) = .ok (.bool (!decide (l = []))) := by
  unfold neD
  rw [shaped_cells, show SeqAt.shaped (.tuple []) = true from shaped_cells []]
  show Res.ok (PyData.bool (!PyData.eqvAll (l.map cellD) (([] : List (Int × Int)).map cellD))) = _
  rw [eqv_cells]
theorem spots_ok (n : Int) (P cs : List (Int × Int)) (r : Bool) (lead : Int × Int) (hn : 0 ≤ n) (hP : P ≠ []) (hPl : P.length ≤ 1000) (hcl : cs.length ≤ 10000) : PQ (D_law_spots [.int n] [tupC P, shp cs r, cellD lead]) fun d => ∃ ss : List (Int × Int), d = .list (ss.map cellD) := by
  obtain ⟨a, b⟩ := lead
  have h81 : 0 ≤ n / 9 / 9 := Int.ediv_nonneg (Int.ediv_nonneg hn (by decide)) (by decide)
  have i0 := ne_nilT cs
  have two : (PyData.list [.tuple [.int a, .int b], .tuple [.int (a + n % 9 - 4), .int (b + n / 9 % 9 - 4)]]) = .list ([(a, b), (a + n % 9 - 4, b + n / 9 % 9 - 4)].map cellD) := rfl
  change neD (tupC cs) _ = _ at i0
  show PQ (D_law_spots [.int n] [tupC P, .tuple [tupC cs, .bool r], .tuple [.int a, .int b]]) _
  by_cases hc : cs = []
  · rw [decide_eq_true hc] at i0
    generalize tupC cs = T at *
    generalize tupC P = Q at *
    unfold D_law_spots
    walk_at "ev"
    simp only [qNewL]
    walk_at "ev"
    rw [i0]
    walk_at "ev"
    exact PQ.ok h81 ⟨_, two⟩
  · rw [decide_eq_false hc] at i0
    obtain ⟨σ', e, n', ss, x5, x6, x7, hn', _, rfl⟩ := loop_n (body := B_law_spots_1) (Inv := fun j σ => spInv P cs r (a, b) j σ) (i := 5) 0 10 (fun m σ d hm h => spots_turn P cs r (a, b) m σ hP hc hPl hcl (by omega) h d) ((List.range 3).map fun k : Nat => PyData.int (k : Nat)) 2
      [some (.ow (.list [.int (n / 9 / 9)])), some (.sh (tupC P)), some (.sh (shp cs r)), some (.sh (cellD (a, b))), some (.ow (.list ([(a, b), (a + n % 9 - 4, b + n / 9 % 9 - 4)].map cellD))), none, none, none] (by decide)
      ⟨_, _, none, none, none, h81, rfl, rfl⟩
    have it : ∀ y : DS, I_law_spots_1 y = .ok ((List.range 3).map fun k : Nat => PyData.int (k : Nat)) := fun y => rng1_nat (m := 3) (by decide) (by decide)
    rw [← two] at e
    change forS (gN 5) B_law_spots_1 ((List.range 3).map fun k : Nat => PyData.int (k : Nat)) [some (.ow (.list [.int (n / 9 / 9)])), some (.sh (tupC P)), some (.sh (.tuple [tupC cs, .bool r])), some (.sh (.tuple [.int a, .int b])), some (.ow (.list [.tuple [.int a, .int b], .tuple [.int (a + n % 9 - 4), .int (b + n / 9 % 9 - 4)]])), none, none, none] = _ at e
    rw [show shp cs r = .tuple [tupC cs, .bool r] from rfl] at e
    generalize tupC cs = T at *
    generalize tupC P = Q at *
    unfold D_law_spots C_law_spots_1
    walk_at "ev"
    simp only [qNewL]
    walk_at "ev"
    rw [i0]
    walk_at "ev"
    rw [it]
    walk_at "ev"
    rw [e]
    walk_at "ev"
    exact PQ.ok hn' ⟨ss, rfl⟩
theorem has_eq : D_has = dHas := rfl
def wholeE : DS → Res D := eLc (fun σ => ((eCall D_lies_on (aCons (eVar 1) (aCons (eVar 2) aNil))) σ).bind seqOf) (gN 3) [3] tYesD (eCall D_has (aCons (eVar 0) (aCons (eVar 3) aNil)))
theorem q_w : D_whole_at = fnD 4 3 (sRet (eCall allD (aCons wholeE aNil))) := rfl
theorem q_c : D_clear_at = fnD 4 3 (sRet (e1 notD (eCall anyD (aCons wholeE aNil)))) := rfl
theorem whole_ok (P cs : List (Int × Int)) (r : Bool) (c : Int × Int) (hl : P.length ≤ 1000) : D_whole_at [shp cs r, tupC P, cellD c] = .ok (.bool (P.all fun s => hsB cs r (plusC s c))) := by
  have e1 : D_lies_on [tupC P, cellD c] = _ := H3.lies_ok P c hl
  have lc : wholeE [some (shp cs r), some (tupC P), some (cellD c), none] = .ok (.list (((P.map fun s => plusC s c).map fun q => hsB cs r q).map PyData.bool)) :=
    Eq.trans (lcC (k := 3) (it := fun σ => ((eCall D_lies_on (aCons (eVar 1) (aCons (eVar 2) aNil))) σ).bind seqOf) (f := eCall D_has (aCons (eVar 0) (aCons (eVar 3) aNil))) (σ := [some (shp cs r), some (tupC P), some (cellD c), none]) (g := fun q => .bool (hsB cs r q)) (P.map fun s => plusC s c) (by
      show ((D_lies_on [tupC P, cellD c]).bind seqOf) = _
      rw [e1]; rfl) (by rw [List.length_map]; omega) (fun p _ => has_ok cs r p) (show 3 < 4 by decide)) (congrArg (fun l => Res.ok (PyData.list l)) List.map_map.symm)
  have e3 := all_bools ((P.map fun s => plusC s c).map fun q => hsB cs r q)
  have e4 : (((P.map fun s => plusC s c).map fun q => hsB cs r q).all id) = P.all fun s => hsB cs r (plusC s c) := by
    rw [List.all_map, List.all_map]; rfl
  rw [e4] at e3
  rw [q_w]
  walk_at "ev"
  rw [lc]
  walk_at "ev"
  rw [e3]
  walk_at "ev"
theorem clear_ok (P cs : List (Int × Int)) (r : Bool) (c : Int × Int) (hl : P.length ≤ 1000) : D_clear_at [shp cs r, tupC P, cellD c] = .ok (.bool (!P.any fun s => hsB cs r (plusC s c))) := by
  have e1 : D_lies_on [tupC P, cellD c] = _ := H3.lies_ok P c hl
  have lc : wholeE [some (shp cs r), some (tupC P), some (cellD c), none] = .ok (.list (((P.map fun s => plusC s c).map fun q => hsB cs r q).map PyData.bool)) :=
    Eq.trans (lcC (k := 3) (it := fun σ => ((eCall D_lies_on (aCons (eVar 1) (aCons (eVar 2) aNil))) σ).bind seqOf) (f := eCall D_has (aCons (eVar 0) (aCons (eVar 3) aNil))) (σ := [some (shp cs r), some (tupC P), some (cellD c), none]) (g := fun q => .bool (hsB cs r q)) (P.map fun s => plusC s c) (by
      show ((D_lies_on [tupC P, cellD c]).bind seqOf) = _
      rw [e1]; rfl) (by rw [List.length_map]; omega) (fun p _ => has_ok cs r p) (show 3 < 4 by decide)) (congrArg (fun l => Res.ok (PyData.list l)) List.map_map.symm)
  have e3 := any_bools ((P.map fun s => plusC s c).map fun q => hsB cs r q)
  have e4 : (((P.map fun s => plusC s c).map fun q => hsB cs r q).any id) = P.any fun s => hsB cs r (plusC s c) := by
    rw [List.any_map, List.any_map]; rfl
  rw [e4] at e3
  rw [q_c]
  walk_at "ev"
  rw [lc]
  walk_at "ev"
  rw [e3]
  walk_at "ev"
theorem shaped_bools (l : List Bool) : SeqAt.shaped (.list (l.map PyData.bool)) = true := by
  have h1 : ∀ l : List Bool, PyData.canLayAll0 (l.map PyData.bool) = true := fun l => by
    induction l with
    | nil => rfl
    | cons b l ih => simp only [List.map_cons, PyData.canLayAll0, PyData.canLay0, ih]; rfl
  have h2 : ∀ l : List Bool, PyData.depthAll (l.map PyData.bool) ≤ 1 := fun l => by
    induction l with
    | nil => simp [PyData.depthAll]
    | cons b l ih => simp only [List.map_cons, PyData.depthAll, PyData.depth]; omega
  have := h2 l
  unfold SeqAt.shaped
  simp only [PyData.canLay0, PyData.depth, h1]
  simp
  omega
theorem notin_bools (b : Bool) (l : List Bool) : notInG (.bool b) (.list (l.map PyData.bool)) = .ok (.bool (!l.any fun x => x == b)) := by
  have hs : (SeqAt.shaped (.bool b) && SeqAt.shaped (.list (l.map PyData.bool))) = true := by rw [shaped_bools]; cases b <;> rfl
  show (if (SeqAt.shaped (.bool b) && SeqAt.shaped (.list (l.map PyData.bool))) = true then Res.ok (PyData.bool !memD (.bool b) (l.map PyData.bool)) else .stuck) = _
  rw [if_pos hs]
  unfold memD
  rw [List.any_map]
  congr 3
end H14

namespace H7
open PySem PySem.Spec PyProof.Rows L2 E3
local macro_rules | `(tactic| walk_at "ev") => `(tactic| try simp (disch := first | decide | decide +kernel | omega) only [fnD, startF, endF, sSeq, sAsg, sSet, sSetV, sAsgV, sIf, sRet, sNew, sNewV, sMut, sMutV, sFor, sForR, sFreeze, sNil, sExpr, optK, thenR_ok, thenR_exc, thenR_stuck,
  view, mask, E3.eVar_zero, E3.eVar_succ, eC, e1, e2, eCall, eTup, eLst, eSl, oNone, oSome, eAnd, eOr, eIf, E3.tAnd, E3.tOr, E3.tNot, E3.tB, asB, notD, aNil, aCons, Res.bind_ok, Res.bind_exc, Res.bind_stuck,
  gT, gsCons, gsNil, gN, tupD, lstD, Slot.dat, Slot.shd, List.length_cons, List.length_nil, List.map_cons, List.map_nil, List.replicate, List.append_nil, List.cons_append, List.nil_append, Option.map_some, Option.map_none, Option.bind_some, Option.bind_none,
  List.getElem?_cons_zero, List.getElem?_cons_succ, List.set_cons_zero, List.set_cons_succ, Nat.reduceAdd, Nat.reduceSub, Nat.reduceEqDiff, if_true, if_false, ite_true, ite_false, reduceIte, decide_true, decide_false, reduceCtorEq, Bool.not_true, Bool.not_false, Bool.false_eq_true, Bool.true_eq_false, Bool.or_true, Bool.true_or, Bool.false_or, Bool.or_false, Bool.and_true, Bool.and_false, Bool.true_and, Bool.false_and, addI, subI, ltI, leI, gtI, geI, eqI, neI, E3.negI, ix_cell0, ix_cell1, E3.le0, E3.le1, E3.le2, E3.le3, E3.le4, E3.le5, E3.le6, beq_self_eq_true, Int.reduceBEq, E3.divmodI, E3.modI, E3.fdivI, E3.powL, E3.mulLL, E3.isi_bool_none, E3.isi_bool_bool, E3.isi_bool_int, E3.isi_bool_str, E3.isi_bool_list, E3.isi_bool_tuple, E3.isi_int_none, E3.isi_int_bool, E3.isi_int_int, E3.isi_int_str, E3.isi_int_list, E3.isi_int_tuple, E3.isi_str_none, E3.isi_str_bool, E3.isi_str_int, E3.isi_str_str, E3.isi_str_list, E3.isi_str_tuple, E3.isi_list_none, E3.isi_list_bool, E3.isi_list_int, E3.isi_list_str, E3.isi_list_list, E3.isi_list_tuple, E3.isi_tuple_none, E3.isi_tuple_bool, E3.isi_tuple_int, E3.isi_tuple_str, E3.isi_tuple_list, E3.isi_tuple_tuple, E3.isN_none, E3.ntN_none, E3.isN_bool, E3.ntN_bool, E3.isN_int, E3.ntN_int, E3.isN_str, E3.ntN_str, E3.isN_list, E3.ntN_list, E3.isN_tuple, E3.ntN_tuple, E3.len_list, E3.len_tup, E3.seq_list, E3.seq_tup, E3.tup_list, E3.tup_tup, E3.lst_list, E3.lst_tup, xM, xV, xB, xTB, x2, xAnd, xNil, xCons, xTup, xLst, xCall, xSl, xPot, ownX, potK, XR.bind_ok, XR.bind_exc, XR.bind_stuck, XR.of_ok, XR.of_exc, XR.of_stuck, thenX_ok, thenX_exc, thenX_stuck, qSet, qRet, qIf, qAsg, qForR, qFor, E3.flatR_i, E3.flatR_b, E3.flatR_ii, E3.flatR_c, fnP, startP, endP, fnN, endN, E3.ix_lst0, H6.nextI, Int.cast_ofNat_Int])
def I_summed_1 : DS → Res (List D) := (fun σ => ((eVar 0) σ).bind seqOf)
def B_summed_1 : SF := (sMut 2 extendM (aCons (eCall H3.D_lies_on (aCons (eVar 1) (aCons (eVar 3) aNil))) aNil))
def summedX (X : SF) : List D → Res D := fnD 5 2 (sSeq (sNew 2 (eLst aNil))
  (sSeq (sFor I_summed_1 (gN 3)
  B_summed_1)
  (sFreeze 2 (sSeq (sSet 4 (eCall H3.D_rising (aCons (eVar 2) aNil)))
  (sSeq (sIf (tB (e2 gtD (eCall lenD (aCons (eVar 4) aNil)) (eC (.int 400)))) X sNil)
  (sRet (eVar 4)))))))
abbrev sm (P Q : List (Int × Int)) : List (Int × Int) := srt (H3.reach Q P)
theorem summed_head (P Q : List (Int × Int)) (X : SF) (hQ : Q.length ≤ 1000) (hl : P.length * Q.length ≤ 3999) : summedX X [tupC P, tupC Q] =
    endF ((sSeq (sIf (tB (e2 gtD (eCall lenD (aCons (eVar 4) aNil)) (eC (.int 400)))) X sNil) (sRet (eVar 4))) [some (.sh (tupC P)), some (.sh (tupC Q)), some (.sh (.list ((H3.reach Q P).map cellD))), P.getLast?.map fun c => .sh (cellD c), some (.sh (tupC (sm P Q)))]) := by
  obtain ⟨σ', e, rfl⟩ := forS_pre (p := gN 3) (body := B_summed_1) (g := cellD) (Inv := fun pre σ => σ = [some (.sh (tupC P)), some (.sh (tupC Q)), some (.ow (.list ((H3.reach Q pre).map cellD))), pre.getLast?.map fun c => .sh (cellD c)] ++ [none]) P [some (.sh (tupC P)), some (.sh (tupC Q)), some (.ow (.list [])), none, none] rfl (by
    rintro pre c post σ he rfl
    have e1 := H3.lies_ok Q c hQ
    have lr : (H3.reach Q (pre ++ [c])).length ≤ 3999 := by
      have h1 : (pre ++ [c]).length ≤ P.length := by
        rw [he]; simp
      rw [H3.reach_len]
      exact Nat.le_trans (Nat.mul_le_mul_right _ h1) hl
    have er : H3.reach Q (pre ++ [c]) = H3.reach Q pre ++ Q.map fun s => plusC s c := by
      unfold H3.reach
      rw [List.flatMap_append]
      simp
    have ex : extendM ((H3.reach Q pre).map cellD) [.list ((Q.map fun s => plusC s c).map cellD)] = some (.none, (H3.reach Q (pre ++ [c])).map cellD) := by
      show (if _ then _ else _) = _
      rw [if_pos (by rw [List.length_map, List.length_map, ← List.length_append, ← er, sizeLine_eq]; omega), ← List.map_append, ← er]
    refine ⟨_, [some (.sh (tupC P)), some (.sh (tupC Q)), some (.ow (.list ((H3.reach Q (pre ++ [c])).map cellD))), some (.sh (cellD c)), none], rfl, .inl ?_, by simp⟩
    show B_summed_1 [some (.sh (tupC P)), some (.sh (tupC Q)), some (.ow (.list ((H3.reach Q pre).map cellD))), some (.sh (cellD c)), none] = _
    unfold B_summed_1
    walk_at "ev"
    simp only [ownL, List.getElem?_cons_zero, List.getElem?_cons_succ]
    walk_at "ev"
    rw [e1]
    walk_at "ev"
    rw [ex]
    simp only [mutK, List.getElem?_cons_zero, List.getElem?_cons_succ]
    walk_at "ev")
  have it : ∀ y1 y2 y3 y4 : Option D, I_summed_1 [some (tupC P), y1, y2, y3, y4] = .ok (P.map cellD) := fun _ _ _ _ => rfl
  have er := H3.rising_ok (H3.reach Q P) (by rw [H3.reach_len]; exact hl)
  unfold summedX
  generalize hG : (sSeq (sIf (tB (e2 gtD (eCall lenD (aCons (eVar 4) aNil)) (eC (.int 400)))) X sNil) (sRet (eVar 4))) = G
  walk_at "ev"
  rw [it]
  walk_at "ev"
  rw [show forS (gN 3) B_summed_1 (P.map cellD) [some (.sh (tupC P)), some (.sh (tupC Q)), some (.ow (.list [])), none, none] = _ from e]
  walk_at "ev"
  rw [er]
  walk_at "ev"
  rfl
theorem summed_ok (P Q : List (Int × Int)) (X : SF) (hQ : Q.length ≤ 1000) (hl : P.length * Q.length ≤ 3999) (hs : (sm P Q).length ≤ 400) : summedX X [tupC P, tupC Q] = .ok (tupC (sm P Q)) := by
  rw [summed_head P Q X hQ hl]
  have e1 := H14.len_tc (sm P Q)
  have e2 : decide ((400 : Int) < ((sm P Q).length : Nat)) = false := decide_eq_false (by omega)
  generalize tupC (sm P Q) = S at *
  walk_at "ev"
  rw [e1]
  walk_at "ev"
  rw [e2]
  walk_at "ev"
theorem mem_sm {P Q : List (Int × Int)} {p : Int × Int} : p ∈ sm P Q ↔ ∃ s ∈ Q, lessC p s ∈ P := by
  rw [mem_srt, H3.mem_reach]
theorem sm_ne {P Q : List (Int × Int)} (hP : P ≠ []) (hQ : Q ≠ []) : sm P Q ≠ [] := by
  obtain ⟨a, ha⟩ := List.exists_mem_of_ne_nil _ hP
  obtain ⟨b, hb⟩ := List.exists_mem_of_ne_nil _ hQ
  have : plusC b a ∈ sm P Q := mem_sm.mpr ⟨b, hb, by
    have : lessC (plusC b a) b = a := Prod.ext (show b.1 + a.1 - b.1 = a.1 by omega) (show b.2 + a.2 - b.2 = a.2 by omega)
    rw [this]; exact ha⟩
  exact List.ne_nil_of_mem this
theorem sm_len (P Q : List (Int × Int)) : (sm P Q).length ≤ P.length * Q.length := Nat.le_trans (srt_len _) (by rw [H3.reach_len]; exact Nat.le_refl _)
theorem less_less (p s t : Int × Int) : lessC (lessC p s) t = lessC p (plusC s t) := Prod.ext (show p.1 - s.1 - t.1 = p.1 - (s.1 + t.1) by omega) (show p.2 - s.2 - t.2 = p.2 - (s.2 + t.2) by omega)
theorem plus_plus (p s t : Int × Int) : plusC s (plusC t p) = plusC (plusC s t) p := Prod.ext (show s.1 + (t.1 + p.1) = s.1 + t.1 + p.1 by omega) (show s.2 + (t.2 + p.2) = s.2 + t.2 + p.2 by omega)
theorem plus_less (t s : Int × Int) : plusC s (lessC t s) = t := Prod.ext (show s.1 + (t.1 - s.1) = t.1 by omega) (show s.2 + (t.2 - s.2) = t.2 by omega)
theorem less_plus (t s : Int × Int) : lessC (plusC s t) s = t := Prod.ext (show s.1 + t.1 - s.1 = t.1 by omega) (show s.2 + t.2 - s.2 = t.2 by omega)
theorem gr_sm {cs P Q : List (Int × Int)} {r : Bool} (hP : P ≠ []) (hQ : Q ≠ []) (h : cs.Pairwise ltP) : H3.gr cs r (sm P Q) = H3.gr (H3.gr cs r P) r Q := by
  refine has_uniq (b := r) (H3.pw_gr _ h) (H3.pw_gr _ (H3.pw_gr _ h)) fun p => ?_
  rw [H3.has_gr _ _ (sm_ne hP hQ), H3.has_gr _ _ hQ]
  refine H3.boolEq ?_
  simp only [List.any_eq_true]
  constructor
  · rintro ⟨t, ht, hx⟩
    obtain ⟨s, hs, hm⟩ := mem_sm.mp ht
    refine ⟨s, hs, ?_⟩
    rw [H3.has_gr _ _ hP, List.any_eq_true]
    exact ⟨_, hm, by rw [less_less, plus_less]; exact hx⟩
  · rintro ⟨s, hs, hx⟩
    rw [H3.has_gr _ _ hP, List.any_eq_true] at hx
    obtain ⟨t, ht, hy⟩ := hx
    exact ⟨plusC s t, mem_sm.mpr ⟨s, hs, by rw [less_plus]; exact ht⟩, by rw [← less_less]; exact hy⟩
theorem ea_sm {cs P Q : List (Int × Int)} {r : Bool} (hP : P ≠ []) (hQ : Q ≠ []) (h : cs.Pairwise ltP) : H3.ea cs r (sm P Q) = H3.ea (H3.ea cs r P) r Q := by
  refine has_uniq (b := r) (H3.pw_ea _ h) (H3.pw_ea _ (H3.pw_ea _ h)) fun p => ?_
  rw [H3.has_ea _ _ (sm_ne hP hQ), H3.has_ea _ _ hQ]
  refine H3.boolEq ?_
  simp only [List.all_eq_true]
  constructor
  · intro w s hs
    rw [H3.has_ea _ _ hP, List.all_eq_true]
    intro t ht
    rw [plus_plus]
    exact w _ (mem_sm.mpr ⟨s, hs, by rw [plusC_comm, less_plus]; exact ht⟩)
  · intro w t ht
    obtain ⟨s, hs, hm⟩ := mem_sm.mp ht
    have := w s hs
    rw [H3.has_ea _ _ hP, List.all_eq_true] at this
    have := this _ hm
    rw [plus_plus, plusC_comm (lessC t s) s, plus_less] at this
    exact this
theorem gr_either {ps qs P : List (Int × Int)} {b c : Bool} (hP : P ≠ []) (hp : ps.Pairwise ltP) (hq : qs.Pairwise ltP) : H3.gr (bo ps (!b) qs (!c)) (!(!b && !c)) P = bo (H3.gr ps b P) (!b) (H3.gr qs c P) (!c) := by
  refine has_uniq (b := !(!b && !c)) (H3.pw_gr _ (pw_bo hp hq)) (pw_bo (H3.pw_gr _ hp) (H3.pw_gr _ hq)) fun p => ?_
  rw [H3.has_gr _ _ hP, has_ei, H3.has_gr _ _ hP, H3.has_gr _ _ hP]
  refine H3.boolEq ?_
  simp only [Bool.or_eq_true, List.any_eq_true]
  constructor
  · rintro ⟨s, hs, hx⟩
    rw [has_ei, Bool.or_eq_true] at hx
    rcases hx with hx | hx
    · exact .inl ⟨s, hs, hx⟩
    · exact .inr ⟨s, hs, hx⟩
  · rintro (⟨s, hs, hx⟩ | ⟨s, hs, hx⟩)
    · exact ⟨s, hs, by rw [has_ei, hx]; rfl⟩
    · exact ⟨s, hs, by rw [has_ei, hx, Bool.or_true]⟩
theorem ea_both {ps qs P : List (Int × Int)} {b c : Bool} (hP : P ≠ []) (hp : ps.Pairwise ltP) (hq : qs.Pairwise ltP) : H3.ea (bo ps b qs c) (b && c) P = bo (H3.ea ps b P) b (H3.ea qs c P) c := by
  refine has_uniq (b := b && c) (H3.pw_ea _ (pw_bo hp hq)) (pw_bo (H3.pw_ea _ hp) (H3.pw_ea _ hq)) fun p => ?_
  rw [H3.has_ea _ _ hP, has_bo, H3.has_ea _ _ hP, H3.has_ea _ _ hP]
  refine H3.boolEq ?_
  simp only [Bool.and_eq_true, List.all_eq_true]
  constructor
  · intro w
    exact ⟨fun s hs => by have := w s hs; rw [has_bo, Bool.and_eq_true] at this; exact this.1, fun s hs => by have := w s hs; rw [has_bo, Bool.and_eq_true] at this; exact this.2⟩
  · rintro ⟨w1, w2⟩ s hs
    rw [has_bo, w1 s hs, w2 s hs]; rfl
section
variable {ps qs P : List (Int × Int)} {b c : Bool} (hP : P ≠ []) (hp : ps.Pairwise ltP) (hq : qs.Pairwise ltP)
include hP
theorem sub_gr (h : E3.Sub ps b qs c) : E3.Sub (H3.gr ps b P) b (H3.gr qs c P) c := by
  intro p hx
  rw [H3.has_gr _ _ hP, List.any_eq_true] at hx ⊢
  obtain ⟨s, hs, hy⟩ := hx
  exact ⟨s, hs, h _ hy⟩
theorem sub_ea (h : E3.Sub ps b qs c) : E3.Sub (H3.ea ps b P) b (H3.ea qs c P) c := by
  intro p hx
  rw [H3.has_ea _ _ hP, List.all_eq_true] at hx ⊢
  exact fun s hs => h _ (hx s hs)
theorem sub_op (h : E3.Sub ps b qs c) : E3.Sub (H3.gr (H3.ea ps b P) b P) b (H3.gr (H3.ea qs c P) c P) c := sub_gr hP (sub_ea hP h)
theorem sub_cl (h : E3.Sub ps b qs c) : E3.Sub (H3.ea (H3.gr ps b P) b P) b (H3.ea (H3.gr qs c P) c P) c := sub_ea hP (sub_gr hP h)
end
theorem len_op {cs P : List (Int × Int)} {r : Bool} (hP : P ≠ []) : (H3.gr (H3.ea cs r P) r P).length ≤ cs.length * P.length := by
  cases r with
  | false => exact Nat.le_trans (H3.len_gr (r := false) hP) (Nat.mul_le_mul_right _ (H3.len_kept _ _ _))
  | true => exact Nat.le_trans (H3.len_kept _ _ _) (H3.len_ea (r := true) hP)
theorem len_cl {cs P : List (Int × Int)} {r : Bool} (hP : P ≠ []) : (H3.ea (H3.gr cs r P) r P).length ≤ cs.length * P.length := by
  cases r with
  | false => exact Nat.le_trans (H3.len_kept _ _ _) (H3.len_gr (r := false) hP)
  | true => exact Nat.le_trans (H3.len_ea (r := true) hP) (Nat.mul_le_mul_right _ (H3.len_kept _ _ _))
theorem add_list (xs ys : List D) (h : xs.length + ys.length ≤ 10000) : addD (.list xs) (.list ys) = .ok (.list (xs ++ ys)) := by
  have : xs.length + ys.length ≤ sizeLine := by have := sizeLine_eq; omega
  unfold addD
  simp only [this, if_true]
end H7

namespace H8
open PySem PySem.Spec PyProof.Rows L2 E3
local macro_rules | `(tactic| walk_at "ev") => `(tactic| try simp (disch := first | decide | decide +kernel | omega) only [fnD, startF, endF, sSeq, sAsg, sSet, sSetV, sAsgV, sIf, sRet, sNew, sNewV, sMut, sMutV, sFor, sForR, sFreeze, sNil, sExpr, optK, thenR_ok, thenR_exc, thenR_stuck,
  view, mask, E3.eVar_zero, E3.eVar_succ, eC, e1, e2, eCall, eTup, eLst, eSl, oNone, oSome, eAnd, eOr, eIf, E3.tAnd, E3.tOr, E3.tNot, E3.tB, asB, notD, aNil, aCons, Res.bind_ok, Res.bind_exc, Res.bind_stuck,
  gT, gsCons, gsNil, gN, tupD, lstD, Slot.dat, Slot.shd, List.length_cons, List.length_nil, List.map_cons, List.map_nil, List.replicate, List.append_nil, List.cons_append, List.nil_append, Option.map_some, Option.map_none, Option.bind_some, Option.bind_none,
  List.getElem?_cons_zero, List.getElem?_cons_succ, List.set_cons_zero, List.set_cons_succ, Nat.reduceAdd, Nat.reduceSub, Nat.reduceEqDiff, if_true, if_false, ite_true, ite_false, reduceIte, decide_true, decide_false, reduceCtorEq, Bool.not_true, Bool.not_false, Bool.false_eq_true, Bool.true_eq_false, Bool.or_true, Bool.true_or, Bool.false_or, Bool.or_false, Bool.and_true, Bool.and_false, Bool.true_and, Bool.false_and, addI, subI, ltI, leI, gtI, geI, eqI, neI, E3.negI, ix_cell0, ix_cell1, E3.le0, E3.le1, E3.le2, E3.le3, E3.le4, E3.le5, E3.le6, beq_self_eq_true, Int.reduceBEq, E3.divmodI, E3.modI, E3.fdivI, E3.powL, E3.mulLL, E3.isi_bool_none, E3.isi_bool_bool, E3.isi_bool_int, E3.isi_bool_str, E3.isi_bool_list, E3.isi_bool_tuple, E3.isi_int_none, E3.isi_int_bool, E3.isi_int_int, E3.isi_int_str, E3.isi_int_list, E3.isi_int_tuple, E3.isi_str_none, E3.isi_str_bool, E3.isi_str_int, E3.isi_str_str, E3.isi_str_list, E3.isi_str_tuple, E3.isi_list_none, E3.isi_list_bool, E3.isi_list_int, E3.isi_list_str, E3.isi_list_list, E3.isi_list_tuple, E3.isi_tuple_none, E3.isi_tuple_bool, E3.isi_tuple_int, E3.isi_tuple_str, E3.isi_tuple_list, E3.isi_tuple_tuple, E3.isN_none, E3.ntN_none, E3.isN_bool, E3.ntN_bool, E3.isN_int, E3.ntN_int, E3.isN_str, E3.ntN_str, E3.isN_list, E3.ntN_list, E3.isN_tuple, E3.ntN_tuple, E3.len_list, E3.len_tup, E3.seq_list, E3.seq_tup, E3.tup_list, E3.tup_tup, E3.lst_list, E3.lst_tup, xM, xV, xB, xTB, x2, xAnd, xNil, xCons, xTup, xLst, xCall, xSl, xPot, ownX, potK, XR.bind_ok, XR.bind_exc, XR.bind_stuck, XR.of_ok, XR.of_exc, XR.of_stuck, thenX_ok, thenX_exc, thenX_stuck, qSet, qRet, qIf, qAsg, qForR, qFor, E3.flatR_i, E3.flatR_b, E3.flatR_ii, E3.flatR_c, fnP, startP, endP, fnN, endN, E3.ix_lst0, H6.nextI, Int.cast_ofNat_Int])
def lookX (X : SF) : List D → Res D := fnD 1 1 (sIf (E3.tOr (tB (e2 ltD (eVar 0) (eC (.int 0)))) (tB (e2 geD (eVar 0) (eC (.int 8))))) X sNil)
def I_turned_cell_1 : DS → Res (List D) := (fun σ => ((aCons (e2 modD (eVar 1) (eC (.int 4))) aNil) σ).bind rng1)
def B_turned_cell_1 : SF := (sPar 2 3 (aCons (eVar 3) (aCons (e2 subD (eC (.int 0)) (eVar 2)) aNil)))
def turnedCellX (X : SF) : List D → Res D := fnD 5 2 (sSeq (sExpr (eCall (lookX X) (aCons (eVar 1) aNil)))
  (sSeq (sAsg (gT 2 (gsCons (gN 2) (gsCons (gN 3) gsNil))) (eVar 0))
  (sSeq (sIf (tB (e2 geD (eVar 1) (eC (.int 4)))) (sSet 3 (e2 subD (eC (.int 0)) (eVar 3))) sNil)
  (sSeq (sFor I_turned_cell_1 (gN 4)
  B_turned_cell_1)
  (sRet (eTup (aCons (eVar 2) (aCons (eVar 3) aNil))))))))
def turnedPieceX (X : SF) : List D → Res D := fnD 3 2 (sRet (eCall H3.D_rising (aCons (eLc (fun σ => ((eVar 0) σ).bind seqOf) (gN 2) [2] tYesD (eCall (turnedCellX X) (aCons (eVar 2) (aCons (eVar 1) aNil)))) aNil)))
def turnedX (X : SF) : List D → Res D := fnD 5 2 (sSeq (sExpr (eCall (lookX X) (aCons (eVar 1) aNil)))
  (sSeq (sAsg (gT 2 (gsCons (gN 2) (gsCons (gN 3) gsNil))) (eVar 0))
  (sRet (eTup (aCons (eCall H3.D_rising (aCons (eLc (fun σ => ((eVar 2) σ).bind seqOf) (gN 4) [4] tYesD (eCall (turnedCellX X) (aCons (eVar 4) (aCons (eVar 1) aNil)))) aNil)) (aCons (eVar 3) aNil))))))
def turnP : Nat → Int × Int → Int × Int
  | 0, p => p
  | 1, p => (p.2, 0 - p.1)
  | 2, p => (0 - p.1, 0 - p.2)
  | 3, p => (0 - p.2, 0 - (0 - p.1))
  | 4, p => (p.1, 0 - p.2)
  | 5, p => (0 - p.2, 0 - p.1)
  | 6, p => (0 - p.1, 0 - (0 - p.2))
  | _, p => (0 - (0 - p.2), 0 - (0 - p.1))
def backN (t : Nat) : Nat := if 4 ≤ t then t else (4 - t) % 4
theorem lt8 {t : Nat} (h : t < 8) : t = 0 ∨ t = 1 ∨ t = 2 ∨ t = 3 ∨ t = 4 ∨ t = 5 ∨ t = 6 ∨ t = 7 := by omega
theorem backN_lt {t : Nat} (h : t < 8) : backN t < 8 := by unfold backN; split <;> omega
theorem turn_back {a : Nat} (h : a < 8) (p : Int × Int) : turnP (backN a) (turnP a p) = p := by
  obtain ⟨r, c⟩ := p
  rcases lt8 h with e | e | e | e | e | e | e | e <;> subst e <;> simp [turnP, backN]
theorem back_turn {a : Nat} (h : a < 8) (p : Int × Int) : turnP a (turnP (backN a) p) = p := by
  obtain ⟨r, c⟩ := p
  rcases lt8 h with e | e | e | e | e | e | e | e <;> subst e <;> simp [turnP, backN]
theorem turn_add {a : Nat} (h : a < 8) (s p : Int × Int) : turnP a (plusC s p) = plusC (turnP a s) (turnP a p) := by
  obtain ⟨r, c⟩ := p
  obtain ⟨x, y⟩ := s
  rcases lt8 h with e | e | e | e | e | e | e | e <;> subst e <;> refine Prod.ext ?_ ?_ <;> simp [turnP, plusC] <;> omega
theorem look_ok (X : SF) {t : Nat} (h : t < 8) : lookX X [.int (t : Nat)] = .ok .none := by
  have e1 : decide (((t : Nat) : Int) < 0) = false := decide_eq_false (by omega)
  have e2 : decide ((8 : Int) ≤ (t : Nat)) = false := decide_eq_false (by omega)
  unfold lookX
  walk_at "ev"
  rw [e1, e2]
  walk_at "ev"
theorem turned_cell_ok (X : SF) {t : Nat} (h : t < 8) (p : Int × Int) : turnedCellX X [cellD p, .int (t : Nat)] = .ok (cellD (turnP t p)) := by
  have e := look_ok X h
  unfold turnedCellX
  generalize lookX X = L at *
  walk_at "ev"
  rw [e]
  walk_at "ev"
  rcases lt8 h with e | e | e | e | e | e | e | e <;> subst e <;> rfl
theorem turned_piece_ok (X : SF) {t : Nat} (h : t < 8) (P : List (Int × Int)) (hl : P.length ≤ 3999) : turnedPieceX X [tupC P, .int (t : Nat)] = .ok (tupC (srt (P.map (turnP t)))) := by
  have e := H3.rising_ok (P.map (turnP t)) (by rw [List.length_map]; exact hl)
  have lc : eLc (fun σ => ((eVar 0) σ).bind seqOf) (gN 2) [2] tYesD (eCall (turnedCellX X) (aCons (eVar 2) (aCons (eVar 1) aNil))) [some (tupC P), some (.int (t : Nat)), none] = .ok (.list ((P.map (turnP t)).map cellD)) := by
    rw [lcC (g := fun s => cellD (turnP t s)) P rfl (by omega) (fun p _ => turned_cell_ok X h p) (show 2 < 3 by decide), List.map_map]
    rfl
  unfold turnedPieceX
  generalize turnedCellX X = L at *
  walk_at "ev"
  rw [lc]
  walk_at "ev"
  rw [e]
  rfl
theorem turned_ok (X : SF) {t : Nat} (h : t < 8) (cs : List (Int × Int)) (b : Bool) (hl : cs.length ≤ 3999) : turnedX X [shp cs b, .int (t : Nat)] = .ok (shp (srt (cs.map (turnP t))) b) := by
  have e := H3.rising_ok (cs.map (turnP t)) (by rw [List.length_map]; exact hl)
  have e0 := look_ok X h
  have lc : eLc (fun σ => ((eVar 2) σ).bind seqOf) (gN 4) [4] tYesD (eCall (turnedCellX X) (aCons (eVar 4) (aCons (eVar 1) aNil))) [some (shp cs b), some (.int (t : Nat)), some (.tuple (cs.map cellD)), some (.bool b), none] = .ok (.list ((cs.map (turnP t)).map cellD)) := by
    rw [lcC (g := fun s => cellD (turnP t s)) cs rfl (by omega) (fun p _ => turned_cell_ok X h p) (show 4 < 5 by decide), List.map_map]
    rfl
  unfold turnedX
  generalize turnedCellX X = L at *
  generalize lookX X = L2 at *
  walk_at "ev"
  rw [e0]
  walk_at "ev"
  rw [lc]
  walk_at "ev"
  rw [e]
  walk_at "ev"
def D_moved : List D → Res D := fnD 5 2 (sSeq (sAsg (gT 2 (gsCons (gN 2) (gsCons (gN 3) gsNil))) (eVar 0))
  (sRet (eTup (aCons (eCall tupleD (aCons (eLc (fun σ => ((eVar 2) σ).bind seqOf) (gN 4) [4] tYesD (eCall H3.D_moved_cell (aCons (eVar 4) (aCons (eVar 1) aNil)))) aNil)) (aCons (eVar 3) aNil)))))
theorem moved_ok (cs : List (Int × Int)) (b : Bool) (s : Int × Int) (hl : cs.length ≤ 10000) : D_moved [shp cs b, cellD s] = .ok (shp (cs.map (plusC s)) b) := by
  have h : D_moved [shp cs b, cellD s] = .ok (shp (cs.map (mv s.1 s.2)) b) := E3.moved_ok cs b s.1 s.2 (by have := sizeLine_eq; omega)
  rw [h]
  have : mv s.1 s.2 = plusC s := funext fun p => Prod.ext (show p.1 + s.1 = s.1 + p.1 by omega) (show p.2 + s.2 = s.2 + p.2 by omega)
  rw [this]
structure Led (f fi g : Int × Int → Int × Int) : Prop where
  there : ∀ p, f (fi p) = p
  back : ∀ p, fi (f p) = p
  plus : ∀ s p, f (plusC s p) = plusC (g s) (f p)
abbrev tr (f : Int × Int → Int × Int) (cs : List (Int × Int)) : List (Int × Int) := srt (cs.map f)
theorem turn_led {t : Nat} (h : t < 8) : Led (turnP t) (turnP (backN t)) (turnP t) := ⟨back_turn h, turn_back h, turn_add h⟩
theorem plusC_neg (s p : Int × Int) : plusC s (plusC (H3.negC s) p) = p := Prod.ext (show s.1 + (0 - s.1 + p.1) = p.1 by omega) (show s.2 + (0 - s.2 + p.2) = p.2 by omega)
theorem neg_plusC (s p : Int × Int) : plusC (H3.negC s) (plusC s p) = p := Prod.ext (show 0 - s.1 + (s.1 + p.1) = p.1 by omega) (show 0 - s.2 + (s.2 + p.2) = p.2 by omega)
theorem move_led (s : Int × Int) : Led (plusC s) (plusC (H3.negC s)) id := ⟨plusC_neg s, neg_plusC s, fun t p => Prod.ext (show s.1 + (t.1 + p.1) = t.1 + (s.1 + p.1) by omega) (show s.2 + (t.2 + p.2) = t.2 + (s.2 + p.2) by omega)⟩
theorem mem_tr {f fi g : Int × Int → Int × Int} (L : Led f fi g) {cs : List (Int × Int)} {p : Int × Int} : p ∈ tr f cs ↔ fi p ∈ cs := by
  rw [mem_srt, List.mem_map]
  constructor
  · rintro ⟨q, hq, rfl⟩
    rw [L.back]; exact hq
  · intro h
    exact ⟨_, h, L.there p⟩
theorem has_tr {f fi g : Int × Int → Int × Int} (L : Led f fi g) (cs : List (Int × Int)) (r : Bool) (p : Int × Int) : hasB (tr f cs) r p = hasB cs r (fi p) := by
  unfold hasB
  rw [show decide (p ∈ tr f cs) = decide (fi p ∈ cs) from by simp only [mem_tr L]]
theorem map_ne {α β : Type} {f : α → β} {P : List α} (h : P ≠ []) : P.map f ≠ [] := by
  cases P with
  | nil => exact absurd rfl h
  | cons a l => exact List.cons_ne_nil _ _
theorem tr_ne {f : Int × Int → Int × Int} {P : List (Int × Int)} (h : P ≠ []) : tr f P ≠ [] := by
  obtain ⟨a, ha⟩ := List.exists_mem_of_ne_nil _ h
  exact List.ne_nil_of_mem (mem_srt.mpr (List.mem_map.mpr ⟨a, ha, rfl⟩))
theorem led_less {f fi g : Int × Int → Int × Int} (L : Led f fi g) (s p : Int × Int) : lessC (f p) (g s) = f (lessC p s) := by
  have e : plusC s (lessC p s) = p := H7.plus_less p s
  have := L.plus s (lessC p s)
  rw [e] at this
  rw [this, H7.less_plus]
theorem any_trs {g : Int × Int → Int × Int} {P : List (Int × Int)} (q : Int × Int → Bool) : ((tr g P).any q) = P.any fun s => q (g s) := H3.boolEq (by
  simp only [List.any_eq_true]
  constructor
  · rintro ⟨s, hs, h⟩
    obtain ⟨t, ht, rfl⟩ := List.mem_map.mp (mem_srt.mp hs)
    exact ⟨t, ht, h⟩
  · rintro ⟨t, ht, h⟩
    exact ⟨g t, mem_srt.mpr (List.mem_map.mpr ⟨t, ht, rfl⟩), h⟩)
theorem all_trs {g : Int × Int → Int × Int} {P : List (Int × Int)} (q : Int × Int → Bool) : ((tr g P).all q) = P.all fun s => q (g s) := H3.boolEq (by
  simp only [List.all_eq_true]
  constructor
  · intro h t ht
    exact h _ (mem_srt.mpr (List.mem_map.mpr ⟨t, ht, rfl⟩))
  · intro h s hs
    obtain ⟨t, ht, rfl⟩ := List.mem_map.mp (mem_srt.mp hs)
    exact h t ht)
theorem gr_led {f fi g : Int × Int → Int × Int} (L : Led f fi g) {cs P : List (Int × Int)} {r : Bool} (hP : P ≠ []) (h : cs.Pairwise ltP) : H3.gr (tr f cs) r (tr g P) = tr f (H3.gr cs r P) := by
  refine has_uniq (b := r) (H3.pw_gr _ (pw_srt _)) (pw_srt _) fun p => ?_
  rw [H3.has_gr _ _ (tr_ne hP), has_tr L, H3.has_gr _ _ hP, any_trs]
  congr 1
  funext s
  rw [has_tr L]
  have := led_less L s (fi p)
  rw [L.there] at this
  rw [this, L.back]
theorem ea_led {f fi g : Int × Int → Int × Int} (L : Led f fi g) {cs P : List (Int × Int)} {r : Bool} (hP : P ≠ []) (h : cs.Pairwise ltP) : H3.ea (tr f cs) r (tr g P) = tr f (H3.ea cs r P) := by
  refine has_uniq (b := r) (H3.pw_ea _ (pw_srt _)) (pw_srt _) fun p => ?_
  rw [H3.has_ea _ _ (tr_ne hP), has_tr L, H3.has_ea _ _ hP, all_trs]
  congr 1
  funext s
  rw [has_tr L]
  have := L.plus s (fi p)
  rw [L.there] at this
  rw [← this, L.back]
theorem ltP_plus (s : Int × Int) {a b : Int × Int} (z : ltP a b) : ltP (plusC s a) (plusC s b) := by
  rcases z with z | ⟨z, y⟩
  · exact .inl (by show s.1 + a.1 < s.1 + b.1; omega)
  · exact .inr ⟨by show s.1 + a.1 = s.1 + b.1; omega, by show s.2 + a.2 < s.2 + b.2; omega⟩
theorem pw_plus (s : Int × Int) {cs : List (Int × Int)} (h : cs.Pairwise ltP) : (cs.map (plusC s)).Pairwise ltP := List.pairwise_map.mpr (h.imp fun z => ltP_plus s z)
theorem tr_plus (s : Int × Int) {cs : List (Int × Int)} (h : cs.Pairwise ltP) : tr (plusC s) cs = cs.map (plusC s) := H6.srt_pw (pw_plus s h)
theorem tr_id {cs : List (Int × Int)} (h : cs.Pairwise ltP) : tr id cs = cs := by
  show srt (cs.map id) = cs
  rw [List.map_id, H6.srt_pw h]
theorem tr_tr {f g : Int × Int → Int × Int} (cs : List (Int × Int)) : srt ((srt cs).map f) = srt (cs.map f) := H6.srt_ext fun p => by
  rw [List.mem_map, List.mem_map]
  exact ⟨fun ⟨q, a, e⟩ => ⟨q, mem_srt.mp a, e⟩, fun ⟨q, a, e⟩ => ⟨q, mem_srt.mpr a, e⟩⟩
theorem gr_off (s : Int × Int) {cs P : List (Int × Int)} {r : Bool} (hP : P ≠ []) (h : cs.Pairwise ltP) : H3.gr cs r (P.map (plusC s)) = (H3.gr cs r P).map (plusC s) := by
  refine has_uniq (b := r) (H3.pw_gr _ h) (pw_plus s (H3.pw_gr _ h)) fun p => ?_
  rw [← tr_plus s (H3.pw_gr P h), has_tr (move_led s), H3.has_gr _ _ hP, H3.has_gr _ _ (map_ne hP), List.any_map]
  congr 1
  funext t
  show hasB cs r (lessC p (plusC s t)) = _
  congr 1
  exact Prod.ext (show p.1 - (s.1 + t.1) = 0 - s.1 + p.1 - t.1 by omega) (show p.2 - (s.2 + t.2) = 0 - s.2 + p.2 - t.2 by omega)
theorem ea_off (s : Int × Int) {cs P : List (Int × Int)} {r : Bool} (hP : P ≠ []) (h : cs.Pairwise ltP) : H3.ea cs r (P.map (plusC s)) = (H3.ea cs r P).map (plusC (H3.negC s)) := by
  refine has_uniq (b := r) (H3.pw_ea _ h) (pw_plus _ (H3.pw_ea _ h)) fun p => ?_
  rw [← tr_plus (H3.negC s) (H3.pw_ea P h), has_tr (move_led (H3.negC s)), H3.has_ea _ _ hP, H3.has_ea _ _ (map_ne hP), List.all_map]
  congr 1
  funext t
  show hasB cs r (plusC (plusC s t) p) = _
  congr 1
  exact Prod.ext (show s.1 + t.1 + p.1 = t.1 + (0 - (0 - s.1) + p.1) by omega) (show s.2 + t.2 + p.2 = t.2 + (0 - (0 - s.2) + p.2) by omega)
section
variable {cs P : List (Int × Int)} {r : Bool} (hP : P ≠ []) (h : cs.Pairwise ltP)
include hP h
theorem op_led {f fi g : Int × Int → Int × Int} (L : Led f fi g) : H3.gr (H3.ea (tr f cs) r (tr g P)) r (tr g P) = tr f (H3.gr (H3.ea cs r P) r P) := by
  rw [ea_led L hP h, gr_led L hP (H3.pw_ea _ h)]
theorem cl_led {f fi g : Int × Int → Int × Int} (L : Led f fi g) : H3.ea (H3.gr (tr f cs) r (tr g P)) r (tr g P) = tr f (H3.ea (H3.gr cs r P) r P) := by
  rw [gr_led L hP h, ea_led L hP (H3.pw_gr _ h)]
theorem op_off (s : Int × Int) : H3.gr (H3.ea cs r (P.map (plusC s))) r (P.map (plusC s)) = H3.gr (H3.ea cs r P) r P := by
  refine has_uniq (b := r) (H3.pw_op _ h) (H3.pw_op _ h) fun p => ?_
  rw [H3.has_op _ _ (map_ne hP), H3.has_op _ _ hP, List.any_map]
  congr 1
  funext a
  show ((P.map (plusC s)).all fun t => hasB cs r (plusC t (lessC p (plusC s a)))) = _
  rw [List.all_map]
  congr 1
  funext t
  show hasB cs r (plusC (plusC s t) (lessC p (plusC s a))) = _
  congr 1
  exact Prod.ext (show s.1 + t.1 + (p.1 - (s.1 + a.1)) = t.1 + (p.1 - a.1) by omega) (show s.2 + t.2 + (p.2 - (s.2 + a.2)) = t.2 + (p.2 - a.2) by omega)
theorem cl_off (s : Int × Int) : H3.ea (H3.gr cs r (P.map (plusC s))) r (P.map (plusC s)) = H3.ea (H3.gr cs r P) r P := by
  refine has_uniq (b := r) (H3.pw_cl _ h) (H3.pw_cl _ h) fun p => ?_
  rw [H3.has_cl _ _ (map_ne hP), H3.has_cl _ _ hP, List.all_map]
  congr 1
  funext a
  show ((P.map (plusC s)).any fun t => hasB cs r (lessC (plusC (plusC s a) p) t)) = _
  rw [List.any_map]
  congr 1
  funext t
  show hasB cs r (lessC (plusC (plusC s a) p) (plusC s t)) = _
  congr 1
  exact Prod.ext (show s.1 + a.1 + p.1 - (s.1 + t.1) = a.1 + p.1 - t.1 by omega) (show s.2 + a.2 + p.2 - (s.2 + t.2) = a.2 + p.2 - t.2 by omega)
theorem op_sub : E3.Sub (H3.gr (H3.ea cs r P) r P) r cs r := by
  intro p hx
  rw [H3.has_op _ _ hP, List.any_eq_true] at hx
  obtain ⟨s, hs, hy⟩ := hx
  have := List.all_eq_true.mp hy s hs
  rw [H7.plus_less] at this
  exact this
theorem sub_cl : E3.Sub cs r (H3.ea (H3.gr cs r P) r P) r := by
  intro p hx
  rw [H3.has_cl _ _ hP, List.all_eq_true]
  intro s hs
  rw [List.any_eq_true]
  exact ⟨s, hs, by rw [H7.less_plus]; exact hx⟩
theorem ea_op : H3.ea (H3.gr (H3.ea cs r P) r P) r P = H3.ea cs r P := by
  refine has_uniq (b := r) (H3.pw_ea _ (H3.pw_op _ h)) (H3.pw_ea _ h) fun p => H3.boolEq ⟨fun w => ?_, fun w => ?_⟩
  · rw [H3.has_ea _ _ hP, List.all_eq_true] at w ⊢
    exact fun s hs => op_sub hP h _ (w s hs)
  · rw [H3.has_ea _ _ hP, List.all_eq_true]
    intro s hs
    rw [H3.has_gr _ _ hP, List.any_eq_true]
    exact ⟨s, hs, by rw [H7.less_plus]; exact w⟩
theorem gr_cl : H3.gr (H3.ea (H3.gr cs r P) r P) r P = H3.gr cs r P := by
  refine has_uniq (b := r) (H3.pw_gr _ (H3.pw_cl _ h)) (H3.pw_gr _ h) fun p => H3.boolEq ⟨fun w => ?_, fun w => ?_⟩
  · rw [H3.has_gr _ _ hP, List.any_eq_true] at w
    obtain ⟨s, hs, hy⟩ := w
    rw [H3.has_ea _ _ hP, List.all_eq_true] at hy
    have := hy s hs
    rw [H7.plus_less] at this
    exact this
  · rw [H3.has_gr _ _ hP, List.any_eq_true] at w ⊢
    obtain ⟨s, hs, hy⟩ := w
    exact ⟨s, hs, sub_cl hP h _ hy⟩
theorem op_op : H3.gr (H3.ea (H3.gr (H3.ea cs r P) r P) r P) r P = H3.gr (H3.ea cs r P) r P := by
  refine has_uniq (b := r) (H3.pw_op _ (H3.pw_op _ h)) (H3.pw_op _ h) fun p => H3.boolEq ⟨fun w => op_sub hP (H3.pw_op _ h) p w, fun w => ?_⟩
  rw [H3.has_op _ _ hP, List.any_eq_true]
  have w2 := w
  rw [H3.has_op _ _ hP, List.any_eq_true] at w2
  obtain ⟨s, hs, hy⟩ := w2
  refine ⟨s, hs, List.all_eq_true.mpr fun t ht => ?_⟩
  rw [H3.has_op _ _ hP, List.any_eq_true]
  refine ⟨t, ht, ?_⟩
  rw [H7.less_plus]
  exact hy
theorem cl_cl : H3.ea (H3.gr (H3.ea (H3.gr cs r P) r P) r P) r P = H3.ea (H3.gr cs r P) r P := by
  refine has_uniq (b := r) (H3.pw_cl _ (H3.pw_cl _ h)) (H3.pw_cl _ h) fun p => H3.boolEq ⟨fun w => ?_, fun w => sub_cl hP (H3.pw_cl _ h) p w⟩
  rw [H3.has_cl _ _ hP, List.all_eq_true] at w ⊢
  intro s hs
  have := w s hs
  rw [List.any_eq_true] at this
  obtain ⟨t, ht, hy⟩ := this
  rw [H3.has_cl _ _ hP, List.all_eq_true] at hy
  have := hy t ht
  rw [H7.plus_less] at this
  exact this
end
end H8

namespace K38
open PySem PySem.Spec PyProof.Rows L2 E3 H6
local macro_rules | `(tactic| walk_at "ev") => `(tactic| try simp (disch := first | decide | decide +kernel | omega) only [fnD, eMeth, eMeth0, eMk2, mk2R, xOr, xNot, startF, endF, sSeq, sAsg, sSet, sSetV, sAsgV, sIf, sRet, sNew, sNewV, sMut, sMutV, sFor, sForR, sFreeze, sNil, sExpr, optK, thenR_ok, thenR_exc, thenR_stuck,
  view, mask, E3.eVar_zero, E3.eVar_succ, eC, e1, e2, eCall, eTup, eLst, eSl, oNone, oSome, eAnd, eOr, eIf, E3.tAnd, E3.tOr, E3.tNot, E3.tB, asB, notD, aNil, aCons, Res.bind_ok, Res.bind_exc, Res.bind_stuck,
  gT, gsCons, gsNil, gN, tupD, lstD, Slot.dat, Slot.shd, List.length_cons, List.length_nil, List.map_cons, List.map_nil, List.replicate, List.append_nil, List.cons_append, List.nil_append, Option.map_some, Option.map_none, Option.bind_some, Option.bind_none,
  List.getElem?_cons_zero, List.getElem?_cons_succ, List.set_cons_zero, List.set_cons_succ, Nat.reduceAdd, Nat.reduceSub, Nat.reduceEqDiff, if_true, if_false, ite_true, ite_false, reduceIte, decide_true, decide_false, reduceCtorEq, Bool.not_true, Bool.not_false, Bool.false_eq_true, Bool.true_eq_false, Bool.or_true, Bool.true_or, Bool.false_or, Bool.or_false, Bool.and_true, Bool.and_false, Bool.true_and, Bool.false_and, addI, subI, ltI, leI, gtI, geI, eqI, neI, E3.negI, ix_cell0, ix_cell1, E3.le0, E3.le1, E3.le2, E3.le3, E3.le4, E3.le5, E3.le6, beq_self_eq_true, Int.reduceBEq, E3.divmodI, E3.modI, E3.fdivI, E3.powL, E3.mulLL, E3.isi_bool_none, E3.isi_bool_bool, E3.isi_bool_int, E3.isi_bool_str, E3.isi_bool_list, E3.isi_bool_tuple, E3.isi_int_none, E3.isi_int_bool, E3.isi_int_int, E3.isi_int_str, E3.isi_int_list, E3.isi_int_tuple, E3.isi_str_none, E3.isi_str_bool, E3.isi_str_int, E3.isi_str_str, E3.isi_str_list, E3.isi_str_tuple, E3.isi_list_none, E3.isi_list_bool, E3.isi_list_int, E3.isi_list_str, E3.isi_list_list, E3.isi_list_tuple, E3.isi_tuple_none, E3.isi_tuple_bool, E3.isi_tuple_int, E3.isi_tuple_str, E3.isi_tuple_list, E3.isi_tuple_tuple, E3.isN_none, E3.ntN_none, E3.isN_bool, E3.ntN_bool, E3.isN_int, E3.ntN_int, E3.isN_str, E3.ntN_str, E3.isN_list, E3.ntN_list, E3.isN_tuple, E3.ntN_tuple, E3.len_list, E3.len_tup, E3.seq_list, E3.seq_tup, E3.tup_list, E3.tup_tup, E3.lst_list, E3.lst_tup, xM, xV, xB, xTB, x2, xAnd, xNil, xCons, xTup, xLst, xCall, xSl, xPot, ownX, potK, XR.bind_ok, XR.bind_exc, XR.bind_stuck, XR.of_ok, XR.of_exc, XR.of_stuck, thenX_ok, thenX_exc, thenX_stuck, qSet, qRet, qIf, qAsg, qForR, qFor, E3.flatR_i, E3.flatR_b, E3.flatR_ii, E3.flatR_c, fnP, startP, endP, fnL, startL, endL, xPotL, xLast, fnN, endN, E3.ix_lst0, H6.nextI, Int.cast_ofNat_Int])
local macro_rules | `(tactic| walk_at "evs") => `(tactic| try simp (disch := first | decide | decide +kernel | omega) only [fnD, eMeth, eMeth0, eMk2, mk2R, xOr, xNot, startF, endF, sSeq, sAsg, sSet, sSetV, sAsgV, sIf, sRet, sNew, sNewV, sMut, sMutV, sFor, sForR, sFreeze, sNil, sExpr, optK, thenR_ok, thenR_exc, thenR_stuck,
  view, mask, E3.eVar_zero, E3.eVar_succ, eC, e1, e2, eCall, eTup, eLst, eSl, oNone, oSome, eAnd, eOr, eIf, E3.tAnd, E3.tOr, E3.tNot, E3.tB, asB, notD, aNil, aCons, Res.bind_ok, Res.bind_exc, Res.bind_stuck,
  gT, gsCons, gsNil, gN, tupD, lstD, Slot.dat, Slot.shd, List.length_cons, List.length_nil, List.map_cons, List.map_nil, List.replicate, List.append_nil, List.cons_append, List.nil_append, Option.map_some, Option.map_none, Option.bind_some, Option.bind_none,
  List.getElem?_cons_zero, List.getElem?_cons_succ, List.set_cons_zero, List.set_cons_succ, Nat.reduceAdd, Nat.reduceSub, Nat.reduceEqDiff, if_true, if_false, ite_true, ite_false, reduceIte, decide_true, decide_false, reduceCtorEq, Bool.not_true, Bool.not_false, Bool.false_eq_true, Bool.true_eq_false, Bool.or_true, Bool.true_or, Bool.false_or, Bool.or_false, Bool.and_true, Bool.and_false, Bool.true_and, Bool.false_and, addI, subI, ltI, leI, gtI, geI, eqI, neI, E3.negI, ix_cell0, ix_cell1, E3.le0, E3.le1, E3.le2, E3.le3, E3.le4, E3.le5, E3.le6, beq_self_eq_true, Int.reduceBEq, E3.divmodI, E3.modI, E3.fdivI, E3.powL, E3.mulLL, E3.isi_bool_none, E3.isi_bool_bool, E3.isi_bool_int, E3.isi_bool_str, E3.isi_bool_list, E3.isi_bool_tuple, E3.isi_int_none, E3.isi_int_bool, E3.isi_int_int, E3.isi_int_str, E3.isi_int_list, E3.isi_int_tuple, E3.isi_str_none, E3.isi_str_bool, E3.isi_str_int, E3.isi_str_str, E3.isi_str_list, E3.isi_str_tuple, E3.isi_list_none, E3.isi_list_bool, E3.isi_list_int, E3.isi_list_str, E3.isi_list_list, E3.isi_list_tuple, E3.isi_tuple_none, E3.isi_tuple_bool, E3.isi_tuple_int, E3.isi_tuple_str, E3.isi_tuple_list, E3.isi_tuple_tuple, E3.isN_none, E3.ntN_none, E3.isN_bool, E3.ntN_bool, E3.isN_int, E3.ntN_int, E3.isN_str, E3.ntN_str, E3.isN_list, E3.ntN_list, E3.isN_tuple, E3.ntN_tuple, E3.len_list, E3.len_tup, E3.seq_list, E3.seq_tup, E3.tup_list, E3.tup_tup, E3.lst_list, E3.lst_tup, xM, xV, xB, xTB, x2, xAnd, xNil, xCons, xTup, xLst, xCall, xSl, xPot, ownX, potK, XR.bind_ok, XR.bind_exc, XR.bind_stuck, XR.of_ok, XR.of_exc, XR.of_stuck, thenX_ok, thenX_exc, thenX_stuck, qSet, qRet, qIf, qAsg, qForR, qFor, E3.flatR_i, E3.flatR_b, E3.flatR_ii, E3.flatR_c, fnP, startP, endP, fnL, startL, endL, xPotL, xLast, fnN, endN, E3.ix_lst0, H6.nextI, Int.cast_ofNat_Int, *])
abbrev kD : D := .dict [(.bool true, .str "Keep")]
abbrev nD : D := .dict [(.bool true, .str "Nothing")]
abbrev aD : D := .dict [(.bool true, .str "Everything")]
abbrev mvD (st p : D) : D := .dict [(.bool true, .str "Move"), (.str "step", st), (.str "plan", p)]
section
variable {α : Type} (F1 F2 F3 F4 : List D → Res D) (k : (List D → Res D) → Res α) (st p : D)
theorem mg_k (m : Str) : methG m [("Keep", F1), ("Nothing", F2), ("Everything", F3), ("Move", F4)] kD k = k F1 := rfl
theorem mg_n (m : Str) : methG m [("Keep", F1), ("Nothing", F2), ("Everything", F3), ("Move", F4)] nD k = k F2 := rfl
theorem mg_a (m : Str) : methG m [("Keep", F1), ("Nothing", F2), ("Everything", F3), ("Move", F4)] aD k = k F3 := rfl
theorem mg_m1 : methG "made" [("Keep", F1), ("Nothing", F2), ("Everything", F3), ("Move", F4)] (mvD st p) k = k F4 := rfl
theorem mg_m2 : methG "done" [("Keep", F1), ("Nothing", F2), ("Everything", F3), ("Move", F4)] (mvD st p) k = k F4 := rfl
theorem mg_m3 : methG "parts_in" [("Keep", F1), ("Nothing", F2), ("Everything", F3), ("Move", F4)] (mvD st p) k = k F4 := rfl
end
theorem fl_plan (st p : D) : fldI okf_plan "plan" (mvD st p) = .ok p := rfl
theorem fl_step (st p : D) : fldI okf_step "step" (mvD st p) = .ok st := rfl
theorem done_of (n : Nat) (o s : D) (F : List D → Res D) (cs : List (Int × Int)) (b : Bool) (h : ∀ k : (List D → Res D) → Res D, methG "made" [("Keep", D_Plan_made), ("Nothing", D_Nothing_made), ("Everything", D_Everything_made), ("Move", D_Move_made n)] o k = k F)
    (hF : F [o, s] = .ok (shp cs b)) (hl : cs.length ≤ 2000) : D_Plan_done (n + 1) [o, s] = .ok (shp cs b) := by
  have e1 : ixD (shp cs b) (.int 0) = .ok (tupC cs) := rfl
  have e2 : lenD [tupC cs] = .ok (.int (cs.length : Nat)) := by
    show Res.ok (PyData.int ((cs.map cellD).length : Nat)) = _
    rw [List.length_map]
  have e3 : decide ((2000 : Int) < (cs.length : Nat)) = false := decide_eq_false (by omega)
  show H_Plan_done (D_Plan_done n) (D_Move_made n) [o, s] = _
  unfold H_Plan_done
  generalize shp cs b = S at *
  generalize tupC cs = T at *
  walk_at "ev"
  rw [h]
  rw [hF]
  walk_at "ev"
  rw [e1]
  walk_at "ev"
  rw [e2]
  walk_at "ev"
  rw [e3]
  walk_at "ev"
theorem done_k (n : Nat) (P : List (Int × Int)) (b : Bool) (hl : P.length ≤ 2000) : D_Plan_done (n + 1) [kD, shp P b] = .ok (shp P b) := done_of n kD _ D_Plan_made P b (fun k => mg_k _ _ _ _ k _) rfl hl
theorem done_n (n : Nat) (P : List (Int × Int)) (b : Bool) : D_Plan_done (n + 1) [nD, shp P b] = .ok (shp [] false) := done_of n nD _ D_Nothing_made [] false (fun k => mg_n _ _ _ _ k _) (by
  show _ = Res.ok (PyData.tuple [.tuple [], .bool false])
  unfold D_Nothing_made
  walk_at "ev") (by show 0 ≤ 2000; decide)
theorem done_a (n : Nat) (P : List (Int × Int)) (b : Bool) : D_Plan_done (n + 1) [aD, shp P b] = .ok (shp [] true) := done_of n aD _ D_Everything_made [] true (fun k => mg_a _ _ _ _ k _) (by
  show _ = Res.ok (PyData.tuple [.tuple [], .bool true])
  unfold D_Everything_made
  walk_at "ev") (by show 0 ≤ 2000; decide)
theorem made_m (n : Nat) (st : Int × Int) (p s : D) (cs : List (Int × Int)) (b : Bool) (h : ∀ k : (List D → Res D) → Res D, methG "done" [("Keep", D_Plan_done n), ("Nothing", D_Plan_done n), ("Everything", D_Plan_done n), ("Move", D_Plan_done n)] p k = k (D_Plan_done n))
    (hp : D_Plan_done n [p, s] = .ok (shp cs b)) (hl : cs.length ≤ 2000) : D_Move_made (n + 1) [mvD (cellD st) p, s] = .ok (shp (cs.map (plusC st)) b) := by
  have e1 := fl_plan (cellD st) p
  have e2 := fl_step (cellD st) p
  have e3 := H8.moved_ok cs b st (by omega)
  change D_moved [_, _] = _ at e3
  show H_Move_made (D_Plan_done n) (D_Move_made n) [mvD (cellD st) p, s] = _
  unfold H_Move_made
  generalize shp cs b = S at *
  generalize mvD (cellD st) p = o at *
  generalize D_moved = M at *
  walk_at "ev"
  rw [e1]
  walk_at "ev"
  rw [h, hp]
  walk_at "ev"
  rw [e2]
  walk_at "ev"
  rw [e3]
  try walk_at "ev"
theorem done_m (n : Nat) (st : Int × Int) (p s : D) (cs : List (Int × Int)) (b : Bool) (h : ∀ k : (List D → Res D) → Res D, methG "done" [("Keep", D_Plan_done n), ("Nothing", D_Plan_done n), ("Everything", D_Plan_done n), ("Move", D_Plan_done n)] p k = k (D_Plan_done n))
    (hp : D_Plan_done n [p, s] = .ok (shp cs b)) (hl : cs.length ≤ 2000) : D_Plan_done (n + 2) [mvD (cellD st) p, s] = .ok (shp (cs.map (plusC st)) b) :=
  done_of (n + 1) _ _ (D_Move_made (n + 1)) _ b (fun k => mg_m1 _ _ _ _ k _ _) (made_m n st p s cs b h hp hl) (by rw [List.length_map]; exact hl)
abbrev Sh := List (Int × Int) × Bool
abbrev shD (x : Sh) : D := shp x.1 x.2
structure Makes (o : D) (f : Sh → Sh) : Prop where
  cls : ∀ k : (List D → Res D) → Res D, methG "done" [("Keep", D_Plan_done 64), ("Nothing", D_Plan_done 64), ("Everything", D_Plan_done 64), ("Move", D_Plan_done 64)] o k = k (D_Plan_done 64)
  is : ∀ x : Sh, x.1.length ≤ 20 → D_Plan_done 64 [o, shD x] = .ok (shD (f x)) ∧ (f x).1.length ≤ 20
theorem mk_k : Makes kD id := ⟨fun k => rfl, fun x hx => ⟨done_k 63 x.1 x.2 (by omega), hx⟩⟩
theorem mk_n : Makes nD (fun _ => ([], false)) := ⟨fun k => rfl, fun x hx => ⟨done_n 63 x.1 x.2, by show 0 ≤ 20; decide⟩⟩
theorem mk_a : Makes aD (fun _ => ([], true)) := ⟨fun k => rfl, fun x hx => ⟨done_a 63 x.1 x.2, by show 0 ≤ 20; decide⟩⟩
theorem mk_mk (st : Int × Int) : Makes (mvD (cellD st) kD) (fun x => (x.1.map (plusC st), x.2)) := ⟨fun k => rfl, fun x hx => ⟨done_m 62 st kD (shD x) x.1 x.2 (fun k => rfl) (done_k 61 x.1 x.2 (by omega)) (by omega), by show (x.1.map _).length ≤ 20; rw [List.length_map]; exact hx⟩⟩
theorem mk_mn (st : Int × Int) : Makes (mvD (cellD st) nD) (fun _ => ([], false)) := ⟨fun k => rfl, fun x hx => ⟨done_m 62 st nD (shD x) [] false (fun k => rfl) (done_n 61 x.1 x.2) (by show 0 ≤ 2000; decide), by show 0 ≤ 20; decide⟩⟩
theorem mk_ma (st : Int × Int) : Makes (mvD (cellD st) aD) (fun _ => ([], true)) := ⟨fun k => rfl, fun x hx => ⟨done_m 62 st aD (shD x) [] true (fun k => rfl) (done_a 61 x.1 x.2) (by show 0 ≤ 2000; decide), by show 0 ≤ 20; decide⟩⟩
theorem mk_mm (st ot : Int × Int) : Makes (mvD (cellD ot) (mvD (cellD st) kD)) (fun x => (x.1.map (plusC (plusC st ot)), x.2)) := ⟨fun k => rfl, fun x hx => by
  have h1 := done_m 60 st kD (shD x) x.1 x.2 (fun k => rfl) (done_k 59 x.1 x.2 (by omega)) (by omega)
  have h2 := done_m 62 ot (mvD (cellD st) kD) (shD x) (x.1.map (plusC st)) x.2 (fun k => rfl) h1 (by rw [List.length_map]; omega)
  have e : (x.1.map (plusC st)).map (plusC ot) = x.1.map (plusC (plusC st ot)) := by
    rw [List.map_map]
    refine List.map_congr_left fun p _ => ?_
    exact Prod.ext (show ot.1 + (st.1 + p.1) = st.1 + ot.1 + p.1 by omega) (show ot.2 + (st.2 + p.2) = st.2 + ot.2 + p.2 by omega)
  rw [e] at h2
  exact ⟨h2, by show (x.1.map _).length ≤ 20; rw [List.length_map]; exact hx⟩⟩
abbrev shsD (xs : List Sh) : D := .list (xs.map shD)
theorem makes_ok {o : D} {f : Sh → Sh} (M : Makes o f) (xs : List Sh) (hx : ∀ x ∈ xs, x.1.length ≤ 20) : D_law_makes [o, shsD xs, shsD (xs.map f)] = .ok (.bool true) := by
  have hz : ∀ l : List Sh, zipD (l.map shD) ((l.map f).map shD) = l.map fun x => .tuple [shD x, shD (f x)] := fun l => by
    induction l with
    | nil => rfl
    | cons x l ih => show _ :: zipD _ _ = _; rw [ih]; rfl
  have it : ∀ a b c : Option D, I_law_makes_1 [a, some (shsD xs), some (shsD (xs.map f)), b, c] = .ok (xs.map fun x => .tuple [shD x, shD (f x)]) := fun a b c => by
    show Res.ok (zipD (xs.map shD) ((xs.map f).map shD)) = _
    rw [hz]
  obtain ⟨σ', e, y3, y4, rfl⟩ := loop_keep (p := gT 2 (gsCons (gN 3) (gsCons (gN 4) gsNil))) (body := B_law_makes_1) (Inv := fun σ => ∃ y3 y4, σ = [some (.sh o), some (.sh (shsD xs)), some (.sh (shsD (xs.map f))), y3, y4]) (xs.map fun x => .tuple [shD x, shD (f x)])
    [some (.sh o), some (.sh (shsD xs)), some (.sh (shsD (xs.map f))), none, none] ⟨_, _, rfl⟩ (by
      rintro d hd σ ⟨y3, y4, rfl⟩
      obtain ⟨x, hx', rfl⟩ := List.mem_map.mp hd
      refine ⟨[some (.sh o), some (.sh (shsD xs)), some (.sh (shsD (xs.map f))), some (.sh (shD x)), some (.sh (shD (f x)))], rfl, ?_⟩
      obtain ⟨h1, h2⟩ := M.is x (hx x hx')
      have h3 : D_law_same 64 [shD (f x), shD (f x)] = .ok (.bool true) := H30.same_shp (f x).1 (f x).2 (by omega)
      have h4 := M.cls
      unfold B_law_makes_1
      generalize D_law_same 64 = S at *
      generalize D_Plan_done 64 = N at *
      generalize shD x = X1 at *
      generalize shD (f x) = X2 at *
      generalize shsD xs = X3 at *
      generalize shsD (xs.map f) = X4 at *
      walk_at "ev"
      rw [h4, h1]
      walk_at "ev"
      rw [h3]
      walk_at "ev"
      exact SN.ok ⟨_, _, rfl⟩)
  unfold D_law_makes
  generalize I_law_makes_1 = I at *
  generalize B_law_makes_1 = B at *
  generalize shsD xs = X3 at *
  generalize shsD (xs.map f) = X4 at *
  walk_at "ev"
  rw [it]
  walk_at "ev"
  rw [e]
  walk_at "ev"
theorem mul3 (x : D) : mulLD (.list [x]) (.int 3) = .ok (.list [x, x, x]) := by
  have h : mulLD (.list [x]) (.int 3) = if (0 : Int) ≤ 3 ∧ (3 : Int) < 2 ^ 63 ∧ [x].length * (3 : Int).toNat ≤ sizeLine then .ok (.list (List.replicate (3 : Int).toNat [x]).flatten) else .stuck := rfl
  rw [h, if_pos ⟨by decide, by decide, by rw [sizeLine_eq]; show 1 * 3 ≤ 16777216; decide⟩]
  rfl
theorem parts_leaf (o : D) : D_Plan_parts_in [o] = .ok (.list []) := by
  unfold D_Plan_parts_in
  walk_at "ev"
theorem parts_move (st p : D) : D_Move_parts_in [mvD st p] = .ok (.list [p]) := by
  have e := fl_plan st p
  unfold D_Move_parts_in
  generalize mvD st p = o at *
  walk_at "ev"
  rw [e]
  walk_at "ev"
theorem eq_nil : eqD (.list []) (.list []) = .ok (.bool true) := eqD_refl rfl
theorem ne_nil : neD (.list []) (.list []) = .ok (.bool false) := neD_refl rfl
theorem leaf_ok (o : D) (F4 : List D → Res D) (h : ∀ k : (List D → Res D) → Res D, methG "parts_in" [("Keep", D_Plan_parts_in), ("Nothing", D_Plan_parts_in), ("Everything", D_Plan_parts_in), ("Move", D_Move_parts_in)] o k = k D_Plan_parts_in)
    (i0 : isaI reli_0 o = .ok (.bool true)) (i1 : isaI reli_1 o = .ok (.bool false)) : D_law_leaf [o] = .ok (.bool true) := by
  have e1 := parts_leaf o
  have e2 := eq_nil
  have e3 := ne_nil
  have ap : appendM [] [o] = some (.none, [o]) := rfl
  unfold D_law_leaf
  generalize D_Plan_parts_in = N at *
  walk_at "ev"
  rw [h, e1]
  walk_at "ev"
  rw [i0]
  walk_at "ev"
  rw [e3]
  walk_at "ev"
  simp only [ownL, List.getElem?_cons_zero, List.getElem?_cons_succ]
  walk_at "ev"
  rw [ap]
  simp only [mutK, List.getElem?_cons_zero, List.getElem?_cons_succ]
  walk_at "ev"
  rw [h, e1]
  walk_at "ev"
  rw [e2]
  walk_at "ev"
  rw [i1]
  walk_at "ev"
theorem leaf_k : D_law_leaf [kD] = .ok (.bool true) := leaf_ok kD D_Move_parts_in (fun k => rfl) rfl rfl
theorem leaf_n : D_law_leaf [nD] = .ok (.bool true) := leaf_ok nD D_Move_parts_in (fun k => rfl) rfl rfl
theorem leaf_a : D_law_leaf [aD] = .ok (.bool true) := leaf_ok aD D_Move_parts_in (fun k => rfl) rfl rfl
theorem leaves_ok (x y : Sh) (hx : x.1.length ≤ 20) (hy : y.1.length ≤ 20) : D_law_leaves [shsD [x, y, x]] = .ok (.bool true) := by
  have hall : ∀ z ∈ [x, y, x], z.1.length ≤ 20 := fun z hz => by
    simp only [List.mem_cons, List.not_mem_nil, or_false] at hz
    rcases hz with h | h | h <;> subst h <;> assumption
  have m1 := makes_ok mk_k [x, y, x] hall
  have m2 := makes_ok mk_n [x, y, x] hall
  have m3 := makes_ok mk_a [x, y, x] hall
  have u1 := mul3 (.tuple [.tuple [], .bool false])
  have u2 := mul3 (.tuple [.tuple [], .bool true])
  change D_law_makes [kD, shsD [x, y, x], shsD [x, y, x]] = _ at m1
  change D_law_makes [nD, shsD [x, y, x], .list [.tuple [.tuple [], .bool false], .tuple [.tuple [], .bool false], .tuple [.tuple [], .bool false]]] = _ at m2
  change D_law_makes [aD, shsD [x, y, x], .list [.tuple [.tuple [], .bool true], .tuple [.tuple [], .bool true], .tuple [.tuple [], .bool true]]] = _ at m3
  have l3 : lenD [shsD [x, y, x]] = .ok (.int 3) := rfl
  have i1 : isaI reli_2 kD = .ok (.bool false) := rfl
  have i2 : isaI reli_3 nD = .ok (.bool false) := rfl
  have i3 : isaI reli_4 aD = .ok (.bool false) := rfl
  have f1 := leaf_k
  have f2 := leaf_n
  have f3 := leaf_a
  unfold D_law_leaves
  generalize D_law_makes = M at *
  generalize D_law_leaf = L at *
  generalize shsD [x, y, x] = X at *
  walk_at "ev"
  rw [m1]
  walk_at "ev"
  rw [l3]
  walk_at "ev"
  rw [u1]
  walk_at "ev"
  rw [m2]
  walk_at "ev"
  try (rw [l3]; walk_at "ev")
  rw [u2]
  walk_at "ev"
  rw [m3]
  walk_at "ev"
  rw [i1]
  walk_at "ev"
  rw [i2]
  walk_at "ev"
  rw [f1]
  walk_at "ev"
  rw [f2]
  walk_at "ev"
  rw [f3]
  walk_at "ev"
  rw [i3]
  walk_at "ev"
end K38

namespace K38
open PySem PySem.Spec PyProof.Rows L2 E3 H6
local macro_rules | `(tactic| walk_at "ev") => `(tactic| try simp (disch := first | decide | decide +kernel | omega) only [fnD, eMeth, eMeth0, eMk2, xOr, xNot, startF, endF, sSeq, sAsg, sSet, sSetV, sAsgV, sIf, sRet, sNew, sNewV, sMut, sMutV, sFor, sForR, sFreeze, sNil, sExpr, optK, thenR_ok, thenR_exc, thenR_stuck,
  view, mask, E3.eVar_zero, E3.eVar_succ, eC, e1, e2, eCall, eTup, eLst, eSl, oNone, oSome, eAnd, eOr, eIf, E3.tAnd, E3.tOr, E3.tNot, E3.tB, asB, notD, aNil, aCons, Res.bind_ok, Res.bind_exc, Res.bind_stuck,
  gT, gsCons, gsNil, gN, tupD, lstD, Slot.dat, Slot.shd, List.length_cons, List.length_nil, List.map_cons, List.map_nil, List.replicate, List.append_nil, List.cons_append, List.nil_append, Option.map_some, Option.map_none, Option.bind_some, Option.bind_none,
  List.getElem?_cons_zero, List.getElem?_cons_succ, List.set_cons_zero, List.set_cons_succ, Nat.reduceAdd, Nat.reduceSub, Nat.reduceEqDiff, if_true, if_false, ite_true, ite_false, reduceIte, decide_true, decide_false, reduceCtorEq, Bool.not_true, Bool.not_false, Bool.false_eq_true, Bool.true_eq_false, Bool.or_true, Bool.true_or, Bool.false_or, Bool.or_false, Bool.and_true, Bool.and_false, Bool.true_and, Bool.false_and, addI, subI, ltI, leI, gtI, geI, eqI, neI, E3.negI, ix_cell0, ix_cell1, E3.le0, E3.le1, E3.le2, E3.le3, E3.le4, E3.le5, E3.le6, beq_self_eq_true, Int.reduceBEq, E3.divmodI, E3.modI, E3.fdivI, E3.powL, E3.mulLL, E3.isi_bool_none, E3.isi_bool_bool, E3.isi_bool_int, E3.isi_bool_str, E3.isi_bool_list, E3.isi_bool_tuple, E3.isi_int_none, E3.isi_int_bool, E3.isi_int_int, E3.isi_int_str, E3.isi_int_list, E3.isi_int_tuple, E3.isi_str_none, E3.isi_str_bool, E3.isi_str_int, E3.isi_str_str, E3.isi_str_list, E3.isi_str_tuple, E3.isi_list_none, E3.isi_list_bool, E3.isi_list_int, E3.isi_list_str, E3.isi_list_list, E3.isi_list_tuple, E3.isi_tuple_none, E3.isi_tuple_bool, E3.isi_tuple_int, E3.isi_tuple_str, E3.isi_tuple_list, E3.isi_tuple_tuple, E3.isN_none, E3.ntN_none, E3.isN_bool, E3.ntN_bool, E3.isN_int, E3.ntN_int, E3.isN_str, E3.ntN_str, E3.isN_list, E3.ntN_list, E3.isN_tuple, E3.ntN_tuple, E3.len_list, E3.len_tup, E3.seq_list, E3.seq_tup, E3.tup_list, E3.tup_tup, E3.lst_list, E3.lst_tup, xM, xV, xB, xTB, x2, xAnd, xNil, xCons, xTup, xLst, xCall, xSl, xPot, ownX, potK, XR.bind_ok, XR.bind_exc, XR.bind_stuck, XR.of_ok, XR.of_exc, XR.of_stuck, thenX_ok, thenX_exc, thenX_stuck, qSet, qRet, qIf, qAsg, qForR, qFor, E3.flatR_i, E3.flatR_b, E3.flatR_ii, E3.flatR_c, fnP, startP, endP, fnL, startL, endL, xPotL, xLast, fnN, endN, E3.ix_lst0, H6.nextI, Int.cast_ofNat_Int])
local macro_rules | `(tactic| walk_at "evs") => `(tactic| try simp (disch := first | decide | decide +kernel | omega) only [fnD, eMeth, eMeth0, eMk2, xOr, xNot, startF, endF, sSeq, sAsg, sSet, sSetV, sAsgV, sIf, sRet, sNew, sNewV, sMut, sMutV, sFor, sForR, sFreeze, sNil, sExpr, optK, thenR_ok, thenR_exc, thenR_stuck,
  view, mask, E3.eVar_zero, E3.eVar_succ, eC, e1, e2, eCall, eTup, eLst, eSl, oNone, oSome, eAnd, eOr, eIf, E3.tAnd, E3.tOr, E3.tNot, E3.tB, asB, notD, aNil, aCons, Res.bind_ok, Res.bind_exc, Res.bind_stuck,
  gT, gsCons, gsNil, gN, tupD, lstD, Slot.dat, Slot.shd, List.length_cons, List.length_nil, List.map_cons, List.map_nil, List.replicate, List.append_nil, List.cons_append, List.nil_append, Option.map_some, Option.map_none, Option.bind_some, Option.bind_none,
  List.getElem?_cons_zero, List.getElem?_cons_succ, List.set_cons_zero, List.set_cons_succ, Nat.reduceAdd, Nat.reduceSub, Nat.reduceEqDiff, if_true, if_false, ite_true, ite_false, reduceIte, decide_true, decide_false, reduceCtorEq, Bool.not_true, Bool.not_false, Bool.false_eq_true, Bool.true_eq_false, Bool.or_true, Bool.true_or, Bool.false_or, Bool.or_false, Bool.and_true, Bool.and_false, Bool.true_and, Bool.false_and, addI, subI, ltI, leI, gtI, geI, eqI, neI, E3.negI, ix_cell0, ix_cell1, E3.le0, E3.le1, E3.le2, E3.le3, E3.le4, E3.le5, E3.le6, beq_self_eq_true, Int.reduceBEq, E3.divmodI, E3.modI, E3.fdivI, E3.powL, E3.mulLL, E3.isi_bool_none, E3.isi_bool_bool, E3.isi_bool_int, E3.isi_bool_str, E3.isi_bool_list, E3.isi_bool_tuple, E3.isi_int_none, E3.isi_int_bool, E3.isi_int_int, E3.isi_int_str, E3.isi_int_list, E3.isi_int_tuple, E3.isi_str_none, E3.isi_str_bool, E3.isi_str_int, E3.isi_str_str, E3.isi_str_list, E3.isi_str_tuple, E3.isi_list_none, E3.isi_list_bool, E3.isi_list_int, E3.isi_list_str, E3.isi_list_list, E3.isi_list_tuple, E3.isi_tuple_none, E3.isi_tuple_bool, E3.isi_tuple_int, E3.isi_tuple_str, E3.isi_tuple_list, E3.isi_tuple_tuple, E3.isN_none, E3.ntN_none, E3.isN_bool, E3.ntN_bool, E3.isN_int, E3.ntN_int, E3.isN_str, E3.ntN_str, E3.isN_list, E3.ntN_list, E3.isN_tuple, E3.ntN_tuple, E3.len_list, E3.len_tup, E3.seq_list, E3.seq_tup, E3.tup_list, E3.tup_tup, E3.lst_list, E3.lst_tup, xM, xV, xB, xTB, x2, xAnd, xNil, xCons, xTup, xLst, xCall, xSl, xPot, ownX, potK, XR.bind_ok, XR.bind_exc, XR.bind_stuck, XR.of_ok, XR.of_exc, XR.of_stuck, thenX_ok, thenX_exc, thenX_stuck, qSet, qRet, qIf, qAsg, qForR, qFor, E3.flatR_i, E3.flatR_b, E3.flatR_ii, E3.flatR_c, fnP, startP, endP, fnL, startL, endL, xPotL, xLast, fnN, endN, E3.ix_lst0, H6.nextI, Int.cast_ofNat_Int, *])
theorem isa_of (st p : D) : isaI reli_0 (mvD st p) = .ok (.bool true) ∧ isaI reli_5 (mvD st p) = .ok (.bool false) ∧ isaI reli_1 (mvD st p) = .ok (.bool true) := ⟨rfl, rfl, rfl⟩
def mvE (i : Nat) : DS → Res D := eLc (fun σ => ((eVar 0) σ).bind seqOf) (gN 7) [7] tYesD (eCall D_law_moved (aCons (eVar 7) (aCons (eVar i) aNil)))
theorem cellsE (P : List (Int × Int)) (hl : P.length ≤ 10000) (r c : Int) (b : D) : lcD (gT 2 (gsCons (gN 2) (gsCons (gN 3) gsNil))) tYesD (eTup (aCons (e2 addD (eVar 2) (e2 ixD (eVar 1) (eC (.int 0)))) (aCons (e2 addD (eVar 3) (e2 ixD (eVar 1) (eC (.int 1)))) aNil))) [some b, some (.tuple [.int r, .int c]), none, none] (P.map cellD) = .ok (P.map fun p => cellD (p.1 + r, p.2 + c)) :=
  lc_of (g := cellD) (q := fun p => cellD (p.1 + r, p.2 + c)) P fun p _ => ⟨[some b, some (.tuple [.int r, .int c]), some (.int p.1), some (.int p.2)], rfl, rfl, rfl⟩
def lmE : DS → Res D := eLc (fun σ => ((e2 ixD (eVar 0) (eC (.int 0))) σ).bind seqOf) (gT 2 (gsCons (gN 2) (gsCons (gN 3) gsNil))) [2, 3] tYesD (eTup (aCons (e2 addD (eVar 2) (e2 ixD (eVar 1) (eC (.int 0)))) (aCons (e2 addD (eVar 3) (e2 ixD (eVar 1) (eC (.int 1)))) aNil)))
theorem lm_q : D_law_moved = fnD 4 2 (sRet (eTup (aCons (eCall tupleD (aCons lmE aNil)) (aCons (e2 ixD (eVar 0) (eC (.int 1))) aNil)))) := rfl
theorem lmE_ok (x : Sh) (hl : x.1.length ≤ 10000) (st : Int × Int) : lmE [some (shD x), some (cellD st), none, none] = .ok (.list ((x.1.map (plusC st)).map cellD)) := by
  have e : (x.1.map (plusC st)).map cellD = x.1.map fun p => cellD (p.1 + st.1, p.2 + st.2) := by
    rw [List.map_map]
    refine List.map_congr_left fun p _ => ?_
    exact congrArg cellD (Prod.ext (show st.1 + p.1 = p.1 + st.1 by omega) (show st.2 + p.2 = p.2 + st.2 by omega))
  unfold lmE eLc
  dsimp only
  show (Res.bind (Res.ok (x.1.map cellD)) _) = _
  rw [Res.bind_ok, if_pos (by rw [List.length_map, sizeLine_eq]; omega)]
  show (Res.bind (lcD _ _ _ [some (shD x), some (.tuple [.int st.1, .int st.2]), none, none] _) _) = _
  rw [cellsE x.1 hl st.1 st.2 (shD x), e]
  rfl
theorem lmoved_ok (x : Sh) (hl : x.1.length ≤ 10000) (st : Int × Int) : D_law_moved [shD x, cellD st] = .ok (shD (x.1.map (plusC st), x.2)) := by
  have e := lmE_ok x hl st
  have e2 : ixD (shD x) (.int 1) = .ok (.bool x.2) := rfl
  rw [lm_q]
  show _ = Res.ok (PyData.tuple [.tuple ((x.1.map (plusC st)).map cellD), .bool x.2])
  generalize shD x = X at *
  generalize cellD st = C at *
  generalize lmE = E at *
  generalize (x.1.map (plusC st)).map cellD = L at *
  walk_at "ev"
  rw [e]
  walk_at "ev"
  rw [e2]
  walk_at "ev"
theorem mvE_ok (i : Nat) (xs : List Sh) (hx : ∀ x ∈ xs, x.1.length ≤ 20) (hl : xs.length ≤ 10) (st : Int × Int) (a1 a2 a3 a4 a5 a6 : Option D) (hi : eVar i [some (shsD xs), a1, a2, a3, a4, a5, a6, none] = .ok (cellD st)) (hk : ∀ x, eVar i [some (shsD xs), a1, a2, a3, a4, a5, a6, some x] = .ok (cellD st)) :
    mvE i [some (shsD xs), a1, a2, a3, a4, a5, a6, none] = .ok (shsD (xs.map fun x => (x.1.map (plusC st), x.2))) := by
  unfold mvE eLc
  dsimp only
  show (Res.bind (Res.ok (xs.map shD)) _) = _
  rw [Res.bind_ok, if_pos (by rw [List.length_map, sizeLine_eq]; omega), lc_of (g := shD) (q := fun x => shD (x.1.map (plusC st), x.2)) xs fun x hx' => ⟨[some (shsD xs), a1, a2, a3, a4, a5, a6, some (shD x)], by cases a1 <;> cases a2 <;> cases a3 <;> cases a4 <;> cases a5 <;> cases a6 <;> rfl, rfl, by
    show ((aCons (eVar 7) (aCons (eVar i) aNil)) _).bind D_law_moved = _
    have e1 : (aCons (eVar 7) (aCons (eVar i) aNil)) [some (shsD xs), a1, a2, a3, a4, a5, a6, some (shD x)] = .ok [shD x, cellD st] := by
      show ((eVar 7 [some (shsD xs), a1, a2, a3, a4, a5, a6, some (shD x)]).bind fun a => ((eVar i [some (shsD xs), a1, a2, a3, a4, a5, a6, some (shD x)]).bind fun b => Res.ok [b]).bind fun l => Res.ok (a :: l)) = _
      rw [hk]
      rfl
    rw [e1]
    exact lmoved_ok x (by have := hx x hx'; omega) st⟩]
  show Res.ok (PyData.list _) = Res.ok (PyData.list _)
  rw [List.map_map]
  rfl
theorem moves_q : D_law_moves = fnD 8 3 (sSeq (sSet 3 (eMk2 "Move" "step" "plan" (aCons (eVar 1) (aCons (eC (.dict [(.bool true, .str "Keep")])) aNil))))
  (sSeq (sSet 4 (eMk2 "Move" "step" "plan" (aCons (eVar 2) (aCons (eVar 3) aNil))))
  (sSeq (sIf (E3.tOr (E3.tNot (E3.tB (e1 (isaI reli_0) (eVar 3)))) (E3.tB (e1 (isaI reli_5) (eVar 3)))) (sRet (eC (.bool false))) sNil)
  (sSeq (sIf (E3.tOr (E3.tNot (E3.tB (eCall (D_law_same 64) (aCons (e1 (fldI okf_step "step") (eVar 3)) (aCons (eVar 1) aNil))))) (E3.tOr (E3.tNot (E3.tB (e1 (isaI reli_4) (e1 (fldI okf_plan "plan") (eVar 3))))) (E3.tNot (E3.tB (eCall (D_law_same 64) (aCons (e1 (fldI okf_step "step") (eVar 4)) (aCons (eVar 2) aNil))))))) (sRet (eC (.bool false))) sNil)
  (sSeq (sNew 5 (eMeth0 "parts_in" [("Keep", D_Plan_parts_in), ("Nothing", D_Plan_parts_in), ("Everything", D_Plan_parts_in), ("Move", D_Move_parts_in)] (eVar 4)))
  (sSeq (sIf (E3.tOr (E3.tNot (E3.tB (e1 (isiD "list") (eVar 5)))) (E3.tOr (tB (e2 neD (eCall lenD (aCons (eVar 5) aNil)) (eC (.int 1)))) (E3.tNot (E3.tB (e1 (isaI reli_1) (e2 ixD (eVar 5) (eC (.int 0)))))))) (sRet (eC (.bool false))) sNil)
  (sSeq (sIf (E3.tOr (E3.tNot (E3.tB (eCall (D_law_same 64) (aCons (e1 (fldI okf_step "step") (e2 ixD (eVar 5) (eC (.int 0)))) (aCons (eVar 1) aNil))))) (E3.tNot (E3.tB (eCall (D_law_same 64) (aCons (e1 (fldI okf_step "step") (e1 (fldI okf_plan "plan") (eVar 4))) (aCons (eVar 1) aNil)))))) (sRet (eC (.bool false))) sNil)
  (sSeq (sMut0 5 clearM)
  (sFreeze 5 (sSeq (sIf (tB (e2 neD (eCall lenD (aCons (eMeth0 "parts_in" [("Keep", D_Plan_parts_in), ("Nothing", D_Plan_parts_in), ("Everything", D_Plan_parts_in), ("Move", D_Move_parts_in)] (eVar 4)) aNil)) (eC (.int 1)))) (sRet (eC (.bool false))) sNil)
  (sSeq (sIf (E3.tNot (E3.tB (eCall D_law_makes (aCons (eVar 3) (aCons (eVar 0) (aCons (mvE 1) aNil)))))) (sRet (eC (.bool false))) sNil)
  (sSeq (sSet 6 (eTup (aCons (e2 addD (e2 ixD (eVar 1) (eC (.int 0))) (e2 ixD (eVar 2) (eC (.int 0)))) (aCons (e2 addD (e2 ixD (eVar 1) (eC (.int 1))) (e2 ixD (eVar 2) (eC (.int 1)))) aNil))))
  (sSeq (sIf (E3.tNot (E3.tB (eCall D_law_makes (aCons (eVar 4) (aCons (eVar 0) (aCons (mvE 6) aNil)))))) (sRet (eC (.bool false))) sNil)
  (sSeq (sIf (E3.tNot (E3.tB (eCall D_law_makes (aCons (eMk2 "Move" "step" "plan" (aCons (eVar 1) (aCons (eC (.dict [(.bool true, .str "Nothing")])) aNil))) (aCons (eVar 0) (aCons (e2 mulLD (eLst (aCons (eTup (aCons (eTup aNil) (aCons (eC (.bool false)) aNil))) aNil)) (eCall lenD (aCons (eVar 0) aNil))) aNil)))))) (sRet (eC (.bool false))) sNil)
  (sRet (eCall D_law_makes (aCons (eMk2 "Move" "step" "plan" (aCons (eVar 2) (aCons (eC (.dict [(.bool true, .str "Everything")])) aNil))) (aCons (eVar 0) (aCons (e2 mulLD (eLst (aCons (eTup (aCons (eTup aNil) (aCons (eC (.bool true)) aNil))) aNil)) (eCall lenD (aCons (eVar 0) aNil))) aNil))))))))))))))))))) := rfl
theorem moves_ok (x y : Sh) (hx : x.1.length ≤ 20) (hy : y.1.length ≤ 20) (st ot : Int × Int) : D_law_moves [shsD [x, y, x], cellD st, cellD ot] = .ok (.bool true) := by
  have hall : ∀ z ∈ [x, y, x], z.1.length ≤ 20 := fun z hz => by
    simp only [List.mem_cons, List.not_mem_nil, or_false] at hz
    rcases hz with h | h | h <;> subst h <;> assumption
  have m1 := makes_ok (mk_mk st) [x, y, x] hall
  have m2 := makes_ok (mk_mm st ot) [x, y, x] hall
  have m3 := makes_ok (mk_mn st) [x, y, x] hall
  have m4 := makes_ok (mk_ma ot) [x, y, x] hall
  have u1 := mul3 (.tuple [.tuple [], .bool false])
  have u2 := mul3 (.tuple [.tuple [], .bool true])
  change D_law_makes [_, shsD [x, y, x], .list [.tuple [.tuple [], .bool false], .tuple [.tuple [], .bool false], .tuple [.tuple [], .bool false]]] = _ at m3
  change D_law_makes [_, shsD [x, y, x], .list [.tuple [.tuple [], .bool true], .tuple [.tuple [], .bool true], .tuple [.tuple [], .bool true]]] = _ at m4
  have l3 : lenD [shsD [x, y, x]] = .ok (.int 3) := rfl
  have s1 : D_law_same 64 [cellD st, cellD st] = .ok (.bool true) := H30.same_cell st
  have s2 : D_law_same 64 [cellD ot, cellD ot] = .ok (.bool true) := H30.same_cell ot
  have c1 : ∀ a2 a3 a4 a5 a6 : Option D, mvE 1 [some (shsD [x, y, x]), some (cellD st), a2, a3, a4, a5, a6, none] = _ := fun a2 a3 a4 a5 a6 => mvE_ok 1 [x, y, x] hall (by show 3 ≤ 10; decide) st (some (cellD st)) a2 a3 a4 a5 a6 rfl fun _ => rfl
  have c2 : ∀ a1 a2 a3 a4 a5 : Option D, mvE 6 [some (shsD [x, y, x]), a1, a2, a3, a4, a5, some (cellD (plusC st ot)), none] = _ := fun a1 a2 a3 a4 a5 => mvE_ok 6 [x, y, x] hall (by show 3 ≤ 10; decide) (plusC st ot) a1 a2 a3 a4 a5 (some (cellD (plusC st ot))) rfl fun _ => rfl
  have k1 : ixD (cellD st) (.int 0) = .ok (.int st.1) := rfl
  have k2 : ixD (cellD st) (.int 1) = .ok (.int st.2) := rfl
  have k3 : ixD (cellD ot) (.int 0) = .ok (.int ot.1) := rfl
  have k4 : ixD (cellD ot) (.int 1) = .ok (.int ot.2) := rfl
  have k5 : PyData.tuple [.int (st.1 + ot.1), .int (st.2 + ot.2)] = cellD (plusC st ot) := rfl
  have o1 := isa_of (cellD st) kD
  have o2 : isaI reli_4 kD = .ok (.bool true) := rfl
  have g1 := fl_step (cellD st) kD
  have g2 := fl_plan (cellD st) kD
  have g3 := fl_step (cellD ot) (mvD (cellD st) kD)
  have g4 := fl_plan (cellD ot) (mvD (cellD st) kD)
  have p1 := parts_move (cellD ot) (mvD (cellD st) kD)
  have p2 : ∀ k : (List D → Res D) → Res D, _ := fun k => mg_m3 D_Plan_parts_in D_Plan_parts_in D_Plan_parts_in D_Move_parts_in k (cellD ot) (mvD (cellD st) kD)
  have q1 : mk2R "Move" "step" "plan" [cellD st, kD] = .ok (mvD (cellD st) kD) := rfl
  have q2 : mk2R "Move" "step" "plan" [cellD ot, mvD (cellD st) kD] = .ok (mvD (cellD ot) (mvD (cellD st) kD)) := rfl
  have q3 : mk2R "Move" "step" "plan" [cellD st, nD] = .ok (mvD (cellD st) nD) := rfl
  have q4 : mk2R "Move" "step" "plan" [cellD ot, aD] = .ok (mvD (cellD ot) aD) := rfl
  have ln1 : ∀ d : D, lenD [.list [d]] = .ok (.int 1) := fun _ => rfl
  have nn : neD (.int 1) (.int 1) = .ok (.bool false) := by rw [neI]; simp
  have xx : ∀ d : D, ixD (.list [d]) (.int 0) = .ok d := fun d => (ix_at (k := 0) (show ([d] : List D)[0]? = some d from rfl)).2
  have cl : ∀ d : D, clearM [d] [] = some (.none, []) := fun _ => rfl
  rw [moves_q]
  generalize D_law_makes = M at *
  generalize D_law_same 64 = S at *
  generalize mvE 1 = E1 at *
  generalize mvE 6 = E6 at *
  generalize D_Move_parts_in = N at *
  generalize shsD ([x, y, x].map fun x => (x.1.map (plusC st), x.2)) = X1 at *
  generalize shsD ([x, y, x].map fun x => (x.1.map (plusC (plusC st ot)), x.2)) = X2 at *
  generalize shsD [x, y, x] = X at *
  generalize cellD (plusC st ot) = C3 at *
  generalize cellD st = C1 at *
  generalize cellD ot = C2 at *
  generalize mvD C2 (mvD C1 kD) = W2 at *
  generalize mvD C1 kD = W1 at *
  generalize mvD C1 nD = W3 at *
  generalize mvD C2 aD = W4 at *
  walk_at "ev"
  rw [q1]
  walk_at "ev"
  rw [q2]
  walk_at "ev"
  rw [o1.1]
  walk_at "ev"
  rw [o1.2.1]
  walk_at "ev"
  rw [g1]
  walk_at "ev"
  rw [s1]
  walk_at "ev"
  rw [g2]
  walk_at "ev"
  rw [o2]
  walk_at "ev"
  rw [g3]
  walk_at "ev"
  rw [s2]
  walk_at "ev"
  rw [p2, p1]
  walk_at "ev"
  try (rw [xx]; walk_at "ev")
  rw [o1.2.2]
  walk_at "ev"
  try (rw [xx]; walk_at "ev")
  rw [g1]
  walk_at "ev"
  rw [s1]
  walk_at "ev"
  rw [g4]
  walk_at "ev"
  rw [g1]
  walk_at "ev"
  rw [s1]
  walk_at "ev"
  simp only [sMut0, ownL, List.getElem?_cons_zero, List.getElem?_cons_succ]
  rw [cl]
  simp only [mutK, List.getElem?_cons_zero, List.getElem?_cons_succ]
  walk_at "ev"
  rw [p2, p1]
  walk_at "ev"
  rw [c1]
  walk_at "ev"
  rw [m1]
  walk_at "ev"
  rw [k1]
  walk_at "ev"
  rw [k3]
  walk_at "ev"
  rw [k2]
  walk_at "ev"
  rw [k4]
  walk_at "ev"
  rw [k5]
  walk_at "ev"
  rw [c2]
  walk_at "ev"
  rw [m2]
  walk_at "ev"
  rw [q3]
  walk_at "ev"
  rw [l3]
  walk_at "ev"
  rw [u1]
  walk_at "ev"
  rw [m3]
  walk_at "ev"
  rw [q4]
  walk_at "ev"
  try (rw [l3]; walk_at "ev")
  rw [u2]
  walk_at "ev"
  rw [m4]
  try walk_at "ev"
theorem body_ok (m : Int) (s x2 x3 x4 x5 : Option Slot) : SN (B_law_1 [s, some (.sh (.int m)), x2, x3, x4, x5]) fun σ => ∃ y1 y2 y3 y4 y5, σ = [s, y1, y2, y3, y4, y5] := by
  obtain ⟨n, hn, e1⟩ := H30.deal_ok m 40 (by decide)
  change D_law_deal [_, _] = _ at e1
  obtain ⟨d1, n1, e2, hn1, P1, b1, _, hP1, _, rfl⟩ := H30.shape_ok n hn
  change D_law_shape [_] [] = _ at e2
  obtain ⟨d2, n2, e3, hn2, P2, b2, _, hP2, _, rfl⟩ := H30.shape_ok n1 hn1
  change D_law_shape [_] [] = _ at e3
  obtain ⟨d3, n3, e4, hn3, st, _, rfl⟩ := H30.step_ok n2 hn2
  change D_law_step [_] [] = _ at e4
  obtain ⟨d4, n4, e5, hn4, ot, _, rfl⟩ := H30.step_ok n3 hn3
  change D_law_step [_] [] = _ at e5
  have f1 : D_law_leaves [.list [shp P1 b1, shp P2 b2, shp P1 b1]] = .ok (.bool true) := leaves_ok (P1, b1) (P2, b2) hP1 hP2
  have f2 : D_law_moves [.list [shp P1 b1, shp P2 b2, shp P1 b1], cellD st, cellD ot] = .ok (.bool true) := moves_ok (P1, b1) (P2, b2) hP1 hP2 st ot
  unfold B_law_1
  generalize D_law_deal = L1 at *
  generalize D_law_shape = L2 at *
  generalize D_law_step = L3 at *
  generalize D_law_leaves = L4 at *
  generalize D_law_moves = L5 at *
  generalize shp P1 b1 = S1 at *
  generalize shp P2 b2 = S2 at *
  generalize cellD st = C1 at *
  generalize cellD ot = C2 at *
  walk_at "ev"
  rw [e1]
  walk_at "ev"
  rw [e2]
  walk_at "ev"
  rw [e3]
  walk_at "ev"
  rw [e4]
  walk_at "ev"
  rw [f1]
  walk_at "ev"
  rw [e5]
  walk_at "ev"
  rw [f2]
  walk_at "ev"
  exact SN.ok ⟨_, _, _, _, _, rfl⟩
theorem it_ok (ns : List Int) (hn : ns.length ≤ 63) : ∃ ms : List Int, I_law_1 (mask (startF 6 [.list (ns.map .int)])) = .ok (ms.map .int) := by
  refine ⟨ns ++ [3], ?_⟩
  have e : addD (.list (ns.map PyData.int)) (.list [.int 3]) = .ok (.list ((ns ++ [3]).map .int)) := by
    show (if _ then _ else _) = _
    rw [if_pos (by rw [List.length_map]; show ns.length + 1 ≤ _; rw [sizeLine_eq]; omega), List.map_append]
    rfl
  show ((addD (.list (ns.map .int)) (.list [.int 3])).bind seqOf) = _
  rw [e]
  rfl
theorem law_true : ∀ ns : List Int, ns.length ≤ 63 → D_law [.list (ns.map .int)] = .ok (.bool true) := by
  intro ns hn
  refine law_skel (Inv := fun σ => ∃ y1 y2 y3 y4 y5, σ = [some (.sh (.list (ns.map .int))), y1, y2, y3, y4, y5]) (it_ok ns hn) ⟨none, none, none, none, none, rfl⟩ ?_
  rintro m σ ⟨y1, y2, y3, y4, y5, rfl⟩
  exact body_ok m _ y2 y3 y4 y5
end K38

namespace K38
open PySem PySem.Spec PyProof.Rows L2 E3

theorem all_mk {l : PySem.W.OpenLaw} {w : World} {K : PySem.W.Frag} {h : Heap} {mg : Str → Option Value} {fa : Addr} (X : K.In h) (G : h.Ns mainGlobals mg) (hfa : mg "law" = some (.ref fa))
    {f_law_take f_law_shape f_law_step f_law_deal f_law_same f_Plan_made f_Nothing_made f_Everything_made f_moved_cell f_moved f_Plan_done f_Move_made f_law_makes f_Plan_parts_in f_Move_parts_in f_law_leaf f_law_leaves f_law_moved f_law_moves f_law c_Move c_Everything c_Nothing c_Keep c_Plan fi_Move : Addr} {od_law_take od_law_shape od_law_step od_law_deal od_law_same od_Plan_made od_Nothing_made od_Everything_made od_moved_cell od_moved od_Plan_done od_Move_made od_law_makes od_Plan_parts_in od_Move_parts_in od_law_leaf od_law_leaves od_law_moved od_law_moves od_law an_law_take an_law_shape an_law_step an_law_deal an_law_same an_Plan_made an_Nothing_made an_Everything_made an_moved_cell an_moved an_Plan_done an_Move_made an_law_makes an_Plan_parts_in an_Move_parts_in an_law_leaf an_law_leaves an_law_moved an_law_moves an_law : Option Addr} {sl_law_take sl_law_shape sl_law_step sl_law_deal sl_law_same sl_Plan_made sl_Nothing_made sl_Everything_made sl_moved_cell sl_moved sl_Plan_done sl_Move_made sl_law_makes sl_Plan_parts_in sl_Move_parts_in sl_law_leaf sl_law_leaves sl_law_moved sl_law_moves sl_law : Array (Option Value)} {oc_law_take oc_law_shape oc_law_step oc_law_deal oc_law_same oc_Plan_made oc_Nothing_made oc_Everything_made oc_moved_cell oc_moved oc_Plan_done oc_Move_made oc_law_makes oc_Plan_parts_in oc_Move_parts_in oc_law_leaf oc_law_leaves oc_law_moved oc_law_moves oc_law kV_law_take kV_law_shape kV_law_step kV_law_deal kV_law_same kV_Plan_made kV_Nothing_made kV_Everything_made kV_moved_cell kV_moved kV_Plan_done kV_Move_made kV_law_makes kV_Plan_parts_in kV_Move_parts_in kV_law_leaf kV_law_leaves kV_law_moved kV_law_moves kV_law dc_law_take dc_law_shape dc_law_step dc_law_deal dc_law_same dc_Plan_made dc_Nothing_made dc_Everything_made dc_moved_cell dc_moved dc_Plan_done dc_Move_made dc_law_makes dc_Plan_parts_in dc_Move_parts_in dc_law_leaf dc_law_leaves dc_law_moved dc_law_moves dc_law pm_law_take pm_law_shape pm_law_step pm_law_deal pm_law_same pm_Plan_made pm_Nothing_made pm_Everything_made pm_moved_cell pm_moved pm_Plan_done pm_Move_made pm_law_makes pm_Plan_parts_in pm_Move_parts_in pm_law_leaf pm_law_leaves pm_law_moved pm_law_moves pm_law cd_law_take cd_law_shape cd_law_step cd_law_deal cd_law_same cd_Plan_made cd_Nothing_made cd_Everything_made cd_moved_cell cd_moved cd_Plan_done cd_Move_made cd_law_makes cd_Plan_parts_in cd_Move_parts_in cd_law_leaf cd_law_leaves cd_law_moved cd_law_moves cd_law ct_law_take ct_law_shape ct_law_step ct_law_deal ct_law_same ct_Plan_made ct_Nothing_made ct_Everything_made ct_moved_cell ct_moved ct_Plan_done ct_Move_made ct_law_makes ct_Plan_parts_in ct_Move_parts_in ct_law_leaf ct_law_leaves ct_law_moved ct_law_moves ct_law : Value}
    (nc_Move : PySem.W.nsIn K mainGlobals "Move" = some (some (.ref c_Move)))
    (CL_Move : Cls K c_Move)
    (nc_Everything : PySem.W.nsIn K mainGlobals "Everything" = some (some (.ref c_Everything)))
    (CL_Everything : Cls K c_Everything)
    (nc_Nothing : PySem.W.nsIn K mainGlobals "Nothing" = some (some (.ref c_Nothing)))
    (CL_Nothing : Cls K c_Nothing)
    (nc_Keep : PySem.W.nsIn K mainGlobals "Keep" = some (some (.ref c_Keep)))
    (CL_Keep : Cls K c_Keep)
    (nc_Plan : PySem.W.nsIn K mainGlobals "Plan" = some (some (.ref c_Plan)))
    (CL_Plan : Cls K c_Plan)
    (CO_Keep : MkO K c_Keep)
    (CO_Nothing : MkO K c_Nothing)
    (CO_Everything : MkO K c_Everything)
    (ii_Move : PySem.W.findIn K (.ref c_Move) "__init__" = some (some (.ref fi_Move)))
    {oci_Move kVi_Move dci_Move pmi_Move cdi_Move cti_Move : Value} {odi_Move ani_Move : Option Addr} {sli_Move : Array (Option Value)} (li_Move : K.lookup fi_Move = some ⟨oci_Move, odi_Move, .func (PySem.W.fnOf "__init__" "Move.__init__" (defArgs si_Move) (defBody si_Move) (defScope si_Move) .none kVi_Move dci_Move pmi_Move ani_Move cdi_Move cti_Move), sli_Move⟩)
    (ci_Move : PySem.W.codeIn K cdi_Move "Move.__init__" = true)
    (ki_Move : PySem.W.keepIn K (.ref fi_Move) = true)
    (MK_Move : Mk K c_Move fi_Move)
    (na_Move_plan : PySem.W.findIn K (.ref c_Move) "plan" = some none)
    (na_Move_step : PySem.W.findIn K (.ref c_Move) "step" = some none)
    (mf_Move_made : PySem.W.findIn K (.ref c_Move) "made" = some (some (.ref f_Move_made)))
    (mf_Everything_made : PySem.W.findIn K (.ref c_Everything) "made" = some (some (.ref f_Everything_made)))
    (mf_Nothing_made : PySem.W.findIn K (.ref c_Nothing) "made" = some (some (.ref f_Nothing_made)))
    (mf_Keep_made : PySem.W.findIn K (.ref c_Keep) "made" = some (some (.ref f_Plan_made)))
    (mf_Move_done : PySem.W.findIn K (.ref c_Move) "done" = some (some (.ref f_Plan_done)))
    (mf_Everything_done : PySem.W.findIn K (.ref c_Everything) "done" = some (some (.ref f_Plan_done)))
    (mf_Nothing_done : PySem.W.findIn K (.ref c_Nothing) "done" = some (some (.ref f_Plan_done)))
    (mf_Keep_done : PySem.W.findIn K (.ref c_Keep) "done" = some (some (.ref f_Plan_done)))
    (mf_Move_parts_in : PySem.W.findIn K (.ref c_Move) "parts_in" = some (some (.ref f_Move_parts_in)))
    (mf_Everything_parts_in : PySem.W.findIn K (.ref c_Everything) "parts_in" = some (some (.ref f_Plan_parts_in)))
    (mf_Nothing_parts_in : PySem.W.findIn K (.ref c_Nothing) "parts_in" = some (some (.ref f_Plan_parts_in)))
    (mf_Keep_parts_in : PySem.W.findIn K (.ref c_Keep) "parts_in" = some (some (.ref f_Plan_parts_in)))
    (sp0 : PySem.W.specialIn K (.builtin "object.__class__") "__get__" = some (some (.builtin "getset_descriptor.__get__")))
    (tk0 : PySem.W.takesIn K (.builtin "object.__class__") = some true)
    (ia_Keep : PySem.W.findIn K (.ref c_Keep) "__class__" = some (some (.builtin "object.__class__")))
    (mr_Keep : PySem.W.mroIn K c_Keep (.type "object") = some true)
    (ia_Nothing : PySem.W.findIn K (.ref c_Nothing) "__class__" = some (some (.builtin "object.__class__")))
    (mr_Nothing : PySem.W.mroIn K c_Nothing (.type "object") = some true)
    (ia_Everything : PySem.W.findIn K (.ref c_Everything) "__class__" = some (some (.builtin "object.__class__")))
    (mr_Everything : PySem.W.mroIn K c_Everything (.type "object") = some true)
    (ia_Move : PySem.W.findIn K (.ref c_Move) "__class__" = some (some (.builtin "object.__class__")))
    (mr_Move : PySem.W.mroIn K c_Move (.type "object") = some true)
    (hd_Plan : PySem.W.hasDictIn K c_Plan = true)
    (ty_Plan : PySem.W.typeIn K (.ref c_Plan) = some (.type "type"))
    (su_Keep_Plan : PySem.W.subIn K (.ref c_Keep) (.ref c_Plan) = some true)
    (su_Nothing_Plan : PySem.W.subIn K (.ref c_Nothing) (.ref c_Plan) = some true)
    (su_Everything_Plan : PySem.W.subIn K (.ref c_Everything) (.ref c_Plan) = some true)
    (su_Move_Plan : PySem.W.subIn K (.ref c_Move) (.ref c_Plan) = some true)
    (hd_Move : PySem.W.hasDictIn K c_Move = true)
    (ty_Move : PySem.W.typeIn K (.ref c_Move) = some (.type "type"))
    (su_Keep_Move : PySem.W.subIn K (.ref c_Keep) (.ref c_Move) = some false)
    (ne_Keep_Move : (Value.ref c_Keep == Value.ref c_Move) = false)
    (su_Nothing_Move : PySem.W.subIn K (.ref c_Nothing) (.ref c_Move) = some false)
    (ne_Nothing_Move : (Value.ref c_Nothing == Value.ref c_Move) = false)
    (su_Everything_Move : PySem.W.subIn K (.ref c_Everything) (.ref c_Move) = some false)
    (ne_Everything_Move : (Value.ref c_Everything == Value.ref c_Move) = false)
    (su_Move_Move : PySem.W.subIn K (.ref c_Move) (.ref c_Move) = some true)
    (hd_Nothing : PySem.W.hasDictIn K c_Nothing = true)
    (ty_Nothing : PySem.W.typeIn K (.ref c_Nothing) = some (.type "type"))
    (su_Keep_Nothing : PySem.W.subIn K (.ref c_Keep) (.ref c_Nothing) = some false)
    (ne_Keep_Nothing : (Value.ref c_Keep == Value.ref c_Nothing) = false)
    (su_Nothing_Nothing : PySem.W.subIn K (.ref c_Nothing) (.ref c_Nothing) = some true)
    (su_Everything_Nothing : PySem.W.subIn K (.ref c_Everything) (.ref c_Nothing) = some false)
    (ne_Everything_Nothing : (Value.ref c_Everything == Value.ref c_Nothing) = false)
    (su_Move_Nothing : PySem.W.subIn K (.ref c_Move) (.ref c_Nothing) = some false)
    (ne_Move_Nothing : (Value.ref c_Move == Value.ref c_Nothing) = false)
    (hd_Everything : PySem.W.hasDictIn K c_Everything = true)
    (ty_Everything : PySem.W.typeIn K (.ref c_Everything) = some (.type "type"))
    (su_Keep_Everything : PySem.W.subIn K (.ref c_Keep) (.ref c_Everything) = some false)
    (ne_Keep_Everything : (Value.ref c_Keep == Value.ref c_Everything) = false)
    (su_Nothing_Everything : PySem.W.subIn K (.ref c_Nothing) (.ref c_Everything) = some false)
    (ne_Nothing_Everything : (Value.ref c_Nothing == Value.ref c_Everything) = false)
    (su_Everything_Everything : PySem.W.subIn K (.ref c_Everything) (.ref c_Everything) = some true)
    (su_Move_Everything : PySem.W.subIn K (.ref c_Move) (.ref c_Everything) = some false)
    (ne_Move_Everything : (Value.ref c_Move == Value.ref c_Everything) = false)
    (hd_Keep : PySem.W.hasDictIn K c_Keep = true)
    (ty_Keep : PySem.W.typeIn K (.ref c_Keep) = some (.type "type"))
    (su_Keep_Keep : PySem.W.subIn K (.ref c_Keep) (.ref c_Keep) = some true)
    (su_Nothing_Keep : PySem.W.subIn K (.ref c_Nothing) (.ref c_Keep) = some false)
    (ne_Nothing_Keep : (Value.ref c_Nothing == Value.ref c_Keep) = false)
    (su_Everything_Keep : PySem.W.subIn K (.ref c_Everything) (.ref c_Keep) = some false)
    (ne_Everything_Keep : (Value.ref c_Everything == Value.ref c_Keep) = false)
    (su_Move_Keep : PySem.W.subIn K (.ref c_Move) (.ref c_Keep) = some false)
    (ne_Move_Keep : (Value.ref c_Move == Value.ref c_Keep) = false)
    (a_law_take : PySem.W.nsIn K mainGlobals "_law_take" = some (some (.ref f_law_take)))
    (l_law_take : K.lookup f_law_take = some ⟨oc_law_take, od_law_take, .func (PySem.W.fnOf "_law_take" "_law_take" (defArgs s_law_take) (defBody s_law_take) (defScope s_law_take) .none kV_law_take dc_law_take pm_law_take an_law_take cd_law_take ct_law_take), sl_law_take⟩)
    (c_law_take : PySem.W.codeIn K cd_law_take "_law_take" = true)
    (k_law_take : PySem.W.keepIn K (.ref f_law_take) = true)
    (a_law_shape : PySem.W.nsIn K mainGlobals "_law_shape" = some (some (.ref f_law_shape)))
    (l_law_shape : K.lookup f_law_shape = some ⟨oc_law_shape, od_law_shape, .func (PySem.W.fnOf "_law_shape" "_law_shape" (defArgs s_law_shape) (defBody s_law_shape) (defScope s_law_shape) .none kV_law_shape dc_law_shape pm_law_shape an_law_shape cd_law_shape ct_law_shape), sl_law_shape⟩)
    (c_law_shape : PySem.W.codeIn K cd_law_shape "_law_shape" = true)
    (k_law_shape : PySem.W.keepIn K (.ref f_law_shape) = true)
    (a_law_step : PySem.W.nsIn K mainGlobals "_law_step" = some (some (.ref f_law_step)))
    (l_law_step : K.lookup f_law_step = some ⟨oc_law_step, od_law_step, .func (PySem.W.fnOf "_law_step" "_law_step" (defArgs s_law_step) (defBody s_law_step) (defScope s_law_step) .none kV_law_step dc_law_step pm_law_step an_law_step cd_law_step ct_law_step), sl_law_step⟩)
    (c_law_step : PySem.W.codeIn K cd_law_step "_law_step" = true)
    (k_law_step : PySem.W.keepIn K (.ref f_law_step) = true)
    (a_law_deal : PySem.W.nsIn K mainGlobals "_law_deal" = some (some (.ref f_law_deal)))
    (l_law_deal : K.lookup f_law_deal = some ⟨oc_law_deal, od_law_deal, .func (PySem.W.fnOf "_law_deal" "_law_deal" (defArgs s_law_deal) (defBody s_law_deal) (defScope s_law_deal) .none kV_law_deal dc_law_deal pm_law_deal an_law_deal cd_law_deal ct_law_deal), sl_law_deal⟩)
    (c_law_deal : PySem.W.codeIn K cd_law_deal "_law_deal" = true)
    (k_law_deal : PySem.W.keepIn K (.ref f_law_deal) = true)
    (a_law_same : PySem.W.nsIn K mainGlobals "_law_same" = some (some (.ref f_law_same)))
    (l_law_same : K.lookup f_law_same = some ⟨oc_law_same, od_law_same, .func (PySem.W.fnOf "_law_same" "_law_same" (defArgs s_law_same) (defBody s_law_same) (defScope s_law_same) .none kV_law_same dc_law_same pm_law_same an_law_same cd_law_same ct_law_same), sl_law_same⟩)
    (c_law_same : PySem.W.codeIn K cd_law_same "_law_same" = true)
    (k_law_same : PySem.W.keepIn K (.ref f_law_same) = true)
    (mi_Plan_made : PySem.W.isFn K (.ref f_Plan_made) = true)
    (l_Plan_made : K.lookup f_Plan_made = some ⟨oc_Plan_made, od_Plan_made, .func (PySem.W.fnOf "made" "Plan.made" (defArgs s_Plan_made) (defBody s_Plan_made) (defScope s_Plan_made) .none kV_Plan_made dc_Plan_made pm_Plan_made an_Plan_made cd_Plan_made ct_Plan_made), sl_Plan_made⟩)
    (c_Plan_made : PySem.W.codeIn K cd_Plan_made "Plan.made" = true)
    (k_Plan_made : PySem.W.keepIn K (.ref f_Plan_made) = true)
    (mi_Nothing_made : PySem.W.isFn K (.ref f_Nothing_made) = true)
    (l_Nothing_made : K.lookup f_Nothing_made = some ⟨oc_Nothing_made, od_Nothing_made, .func (PySem.W.fnOf "made" "Nothing.made" (defArgs s_Nothing_made) (defBody s_Nothing_made) (defScope s_Nothing_made) .none kV_Nothing_made dc_Nothing_made pm_Nothing_made an_Nothing_made cd_Nothing_made ct_Nothing_made), sl_Nothing_made⟩)
    (c_Nothing_made : PySem.W.codeIn K cd_Nothing_made "Nothing.made" = true)
    (k_Nothing_made : PySem.W.keepIn K (.ref f_Nothing_made) = true)
    (mi_Everything_made : PySem.W.isFn K (.ref f_Everything_made) = true)
    (l_Everything_made : K.lookup f_Everything_made = some ⟨oc_Everything_made, od_Everything_made, .func (PySem.W.fnOf "made" "Everything.made" (defArgs s_Everything_made) (defBody s_Everything_made) (defScope s_Everything_made) .none kV_Everything_made dc_Everything_made pm_Everything_made an_Everything_made cd_Everything_made ct_Everything_made), sl_Everything_made⟩)
    (c_Everything_made : PySem.W.codeIn K cd_Everything_made "Everything.made" = true)
    (k_Everything_made : PySem.W.keepIn K (.ref f_Everything_made) = true)
    (a_moved_cell : PySem.W.nsIn K mainGlobals "moved_cell" = some (some (.ref f_moved_cell)))
    (l_moved_cell : K.lookup f_moved_cell = some ⟨oc_moved_cell, od_moved_cell, .func (PySem.W.fnOf "moved_cell" "moved_cell" (defArgs s_moved_cell) (defBody s_moved_cell) (defScope s_moved_cell) .none kV_moved_cell dc_moved_cell pm_moved_cell an_moved_cell cd_moved_cell ct_moved_cell), sl_moved_cell⟩)
    (c_moved_cell : PySem.W.codeIn K cd_moved_cell "moved_cell" = true)
    (k_moved_cell : PySem.W.keepIn K (.ref f_moved_cell) = true)
    (a_moved : PySem.W.nsIn K mainGlobals "moved" = some (some (.ref f_moved)))
    (l_moved : K.lookup f_moved = some ⟨oc_moved, od_moved, .func (PySem.W.fnOf "moved" "moved" (defArgs s_moved) (defBody s_moved) (defScope s_moved) .none kV_moved dc_moved pm_moved an_moved cd_moved ct_moved), sl_moved⟩)
    (c_moved : PySem.W.codeIn K cd_moved "moved" = true)
    (k_moved : PySem.W.keepIn K (.ref f_moved) = true)
    (mi_Plan_done : PySem.W.isFn K (.ref f_Plan_done) = true)
    (l_Plan_done : K.lookup f_Plan_done = some ⟨oc_Plan_done, od_Plan_done, .func (PySem.W.fnOf "done" "Plan.done" (defArgs s_Plan_done) (defBody s_Plan_done) (defScope s_Plan_done) .none kV_Plan_done dc_Plan_done pm_Plan_done an_Plan_done cd_Plan_done ct_Plan_done), sl_Plan_done⟩)
    (c_Plan_done : PySem.W.codeIn K cd_Plan_done "Plan.done" = true)
    (k_Plan_done : PySem.W.keepIn K (.ref f_Plan_done) = true)
    (mi_Move_made : PySem.W.isFn K (.ref f_Move_made) = true)
    (l_Move_made : K.lookup f_Move_made = some ⟨oc_Move_made, od_Move_made, .func (PySem.W.fnOf "made" "Move.made" (defArgs s_Move_made) (defBody s_Move_made) (defScope s_Move_made) .none kV_Move_made dc_Move_made pm_Move_made an_Move_made cd_Move_made ct_Move_made), sl_Move_made⟩)
    (c_Move_made : PySem.W.codeIn K cd_Move_made "Move.made" = true)
    (k_Move_made : PySem.W.keepIn K (.ref f_Move_made) = true)
    (a_law_makes : PySem.W.nsIn K mainGlobals "_law_makes" = some (some (.ref f_law_makes)))
    (l_law_makes : K.lookup f_law_makes = some ⟨oc_law_makes, od_law_makes, .func (PySem.W.fnOf "_law_makes" "_law_makes" (defArgs s_law_makes) (defBody s_law_makes) (defScope s_law_makes) .none kV_law_makes dc_law_makes pm_law_makes an_law_makes cd_law_makes ct_law_makes), sl_law_makes⟩)
    (c_law_makes : PySem.W.codeIn K cd_law_makes "_law_makes" = true)
    (k_law_makes : PySem.W.keepIn K (.ref f_law_makes) = true)
    (mi_Plan_parts_in : PySem.W.isFn K (.ref f_Plan_parts_in) = true)
    (l_Plan_parts_in : K.lookup f_Plan_parts_in = some ⟨oc_Plan_parts_in, od_Plan_parts_in, .func (PySem.W.fnOf "parts_in" "Plan.parts_in" (defArgs s_Plan_parts_in) (defBody s_Plan_parts_in) (defScope s_Plan_parts_in) .none kV_Plan_parts_in dc_Plan_parts_in pm_Plan_parts_in an_Plan_parts_in cd_Plan_parts_in ct_Plan_parts_in), sl_Plan_parts_in⟩)
    (c_Plan_parts_in : PySem.W.codeIn K cd_Plan_parts_in "Plan.parts_in" = true)
    (k_Plan_parts_in : PySem.W.keepIn K (.ref f_Plan_parts_in) = true)
    (mi_Move_parts_in : PySem.W.isFn K (.ref f_Move_parts_in) = true)
    (l_Move_parts_in : K.lookup f_Move_parts_in = some ⟨oc_Move_parts_in, od_Move_parts_in, .func (PySem.W.fnOf "parts_in" "Move.parts_in" (defArgs s_Move_parts_in) (defBody s_Move_parts_in) (defScope s_Move_parts_in) .none kV_Move_parts_in dc_Move_parts_in pm_Move_parts_in an_Move_parts_in cd_Move_parts_in ct_Move_parts_in), sl_Move_parts_in⟩)
    (c_Move_parts_in : PySem.W.codeIn K cd_Move_parts_in "Move.parts_in" = true)
    (k_Move_parts_in : PySem.W.keepIn K (.ref f_Move_parts_in) = true)
    (a_law_leaf : PySem.W.nsIn K mainGlobals "_law_leaf" = some (some (.ref f_law_leaf)))
    (l_law_leaf : K.lookup f_law_leaf = some ⟨oc_law_leaf, od_law_leaf, .func (PySem.W.fnOf "_law_leaf" "_law_leaf" (defArgs s_law_leaf) (defBody s_law_leaf) (defScope s_law_leaf) .none kV_law_leaf dc_law_leaf pm_law_leaf an_law_leaf cd_law_leaf ct_law_leaf), sl_law_leaf⟩)
    (c_law_leaf : PySem.W.codeIn K cd_law_leaf "_law_leaf" = true)
    (k_law_leaf : PySem.W.keepIn K (.ref f_law_leaf) = true)
    (a_law_leaves : PySem.W.nsIn K mainGlobals "_law_leaves" = some (some (.ref f_law_leaves)))
    (l_law_leaves : K.lookup f_law_leaves = some ⟨oc_law_leaves, od_law_leaves, .func (PySem.W.fnOf "_law_leaves" "_law_leaves" (defArgs s_law_leaves) (defBody s_law_leaves) (defScope s_law_leaves) .none kV_law_leaves dc_law_leaves pm_law_leaves an_law_leaves cd_law_leaves ct_law_leaves), sl_law_leaves⟩)
    (c_law_leaves : PySem.W.codeIn K cd_law_leaves "_law_leaves" = true)
    (k_law_leaves : PySem.W.keepIn K (.ref f_law_leaves) = true)
    (a_law_moved : PySem.W.nsIn K mainGlobals "_law_moved" = some (some (.ref f_law_moved)))
    (l_law_moved : K.lookup f_law_moved = some ⟨oc_law_moved, od_law_moved, .func (PySem.W.fnOf "_law_moved" "_law_moved" (defArgs s_law_moved) (defBody s_law_moved) (defScope s_law_moved) .none kV_law_moved dc_law_moved pm_law_moved an_law_moved cd_law_moved ct_law_moved), sl_law_moved⟩)
    (c_law_moved : PySem.W.codeIn K cd_law_moved "_law_moved" = true)
    (k_law_moved : PySem.W.keepIn K (.ref f_law_moved) = true)
    (a_law_moves : PySem.W.nsIn K mainGlobals "_law_moves" = some (some (.ref f_law_moves)))
    (l_law_moves : K.lookup f_law_moves = some ⟨oc_law_moves, od_law_moves, .func (PySem.W.fnOf "_law_moves" "_law_moves" (defArgs s_law_moves) (defBody s_law_moves) (defScope s_law_moves) .none kV_law_moves dc_law_moves pm_law_moves an_law_moves cd_law_moves ct_law_moves), sl_law_moves⟩)
    (c_law_moves : PySem.W.codeIn K cd_law_moves "_law_moves" = true)
    (k_law_moves : PySem.W.keepIn K (.ref f_law_moves) = true)
    (a_law : PySem.W.nsIn K mainGlobals "law" = some (some (.ref f_law)))
    (l_law : K.lookup f_law = some ⟨oc_law, od_law, .func (PySem.W.fnOf "law" "law" (defArgs s_law) (defBody s_law) (defScope s_law) .none kV_law dc_law pm_law an_law cd_law ct_law), sl_law⟩)
    (c_law : PySem.W.codeIn K cd_law "law" = true)
    (k_law : PySem.W.keepIn K (.ref f_law) = true)
    (z_all : PySem.W.nsIn K mainGlobals "all" = some none)
    (z_bool : PySem.W.nsIn K mainGlobals "bool" = some none)
    (z_int : PySem.W.nsIn K mainGlobals "int" = some none)
    (z_isinstance : PySem.W.nsIn K mainGlobals "isinstance" = some none)
    (z_len : PySem.W.nsIn K mainGlobals "len" = some none)
    (z_list : PySem.W.nsIn K mainGlobals "list" = some none)
    (z_range : PySem.W.nsIn K mainGlobals "range" = some none)
    (z_set : PySem.W.nsIn K mainGlobals "set" = some none)
    (z_sorted : PySem.W.nsIn K mainGlobals "sorted" = some none)
    (z_str : PySem.W.nsIn K mainGlobals "str" = some none)
    (z_tuple : PySem.W.nsIn K mainGlobals "tuple" = some none)
    (z_zip : PySem.W.nsIn K mainGlobals "zip" = some none)
    {t_MOST_MADE : Tok} (n_MOST_MADE : PySem.W.nsIn K mainGlobals "MOST_MADE" = some (some (.int 2000 t_MOST_MADE))) :
    ∃ fd : FuncData, (∀ (s : Shared) (v : Value), BindsTo s fd ⟨[v], []⟩ [("script", v)]) ∧ ∀ base : Heap, K.In base → base.Ns mainGlobals mg → FnD l.prog w K mg base 70 fa fd ["script"] D_law := by
  have e := hfa.symm.trans (PySem.W.mg_of X G a_law)
  cases e
  have F_law_take := fun_mk (st := s_law_take) l_law_take c_law_take k_law_take
  have b_law_take := F_law_take.binds (ps := ["pot", "many"]) fun _ _ _ _ _ _ us hl => match us, hl with | [_, _], _ => rfl
  have F_law_shape := fun_mk (st := s_law_shape) l_law_shape c_law_shape k_law_shape
  have b_law_shape := F_law_shape.binds (ps := ["pot"]) fun _ _ _ _ _ _ us hl => match us, hl with | [_], _ => rfl
  have F_law_step := fun_mk (st := s_law_step) l_law_step c_law_step k_law_step
  have b_law_step := F_law_step.binds (ps := ["pot"]) fun _ _ _ _ _ _ us hl => match us, hl with | [_], _ => rfl
  have F_law_deal := fun_mk (st := s_law_deal) l_law_deal c_law_deal k_law_deal
  have b_law_deal := F_law_deal.binds (ps := ["cell", "many"]) fun _ _ _ _ _ _ us hl => match us, hl with | [_, _], _ => rfl
  have F_law_same := fun_mk (st := s_law_same) l_law_same c_law_same k_law_same
  have b_law_same := F_law_same.binds (ps := ["found", "due"]) fun _ _ _ _ _ _ us hl => match us, hl with | [_, _], _ => rfl
  have F_Plan_made := fun_mk (st := s_Plan_made) l_Plan_made c_Plan_made k_Plan_made
  have b_Plan_made := F_Plan_made.binds (ps := ["self", "shape"]) fun _ _ _ _ _ _ us hl => match us, hl with | [_, _], _ => rfl
  have F_Nothing_made := fun_mk (st := s_Nothing_made) l_Nothing_made c_Nothing_made k_Nothing_made
  have b_Nothing_made := F_Nothing_made.binds (ps := ["self", "shape"]) fun _ _ _ _ _ _ us hl => match us, hl with | [_, _], _ => rfl
  have F_Everything_made := fun_mk (st := s_Everything_made) l_Everything_made c_Everything_made k_Everything_made
  have b_Everything_made := F_Everything_made.binds (ps := ["self", "shape"]) fun _ _ _ _ _ _ us hl => match us, hl with | [_, _], _ => rfl
  have F_moved_cell := fun_mk (st := s_moved_cell) l_moved_cell c_moved_cell k_moved_cell
  have b_moved_cell := F_moved_cell.binds (ps := ["cell", "step"]) fun _ _ _ _ _ _ us hl => match us, hl with | [_, _], _ => rfl
  have F_moved := fun_mk (st := s_moved) l_moved c_moved k_moved
  have b_moved := F_moved.binds (ps := ["shape", "step"]) fun _ _ _ _ _ _ us hl => match us, hl with | [_, _], _ => rfl
  have F_Plan_done := fun_mk (st := s_Plan_done) l_Plan_done c_Plan_done k_Plan_done
  have b_Plan_done := F_Plan_done.binds (ps := ["self", "shape"]) fun _ _ _ _ _ _ us hl => match us, hl with | [_, _], _ => rfl
  have F_Move_made := fun_mk (st := s_Move_made) l_Move_made c_Move_made k_Move_made
  have b_Move_made := F_Move_made.binds (ps := ["self", "shape"]) fun _ _ _ _ _ _ us hl => match us, hl with | [_, _], _ => rfl
  have F_law_makes := fun_mk (st := s_law_makes) l_law_makes c_law_makes k_law_makes
  have b_law_makes := F_law_makes.binds (ps := ["plan", "shapes", "dues"]) fun _ _ _ _ _ _ us hl => match us, hl with | [_, _, _], _ => rfl
  have F_Plan_parts_in := fun_mk (st := s_Plan_parts_in) l_Plan_parts_in c_Plan_parts_in k_Plan_parts_in
  have b_Plan_parts_in := F_Plan_parts_in.binds (ps := ["self"]) fun _ _ _ _ _ _ us hl => match us, hl with | [_], _ => rfl
  have F_Move_parts_in := fun_mk (st := s_Move_parts_in) l_Move_parts_in c_Move_parts_in k_Move_parts_in
  have b_Move_parts_in := F_Move_parts_in.binds (ps := ["self"]) fun _ _ _ _ _ _ us hl => match us, hl with | [_], _ => rfl
  have F_law_leaf := fun_mk (st := s_law_leaf) l_law_leaf c_law_leaf k_law_leaf
  have b_law_leaf := F_law_leaf.binds (ps := ["plan"]) fun _ _ _ _ _ _ us hl => match us, hl with | [_], _ => rfl
  have F_law_leaves := fun_mk (st := s_law_leaves) l_law_leaves c_law_leaves k_law_leaves
  have b_law_leaves := F_law_leaves.binds (ps := ["shapes"]) fun _ _ _ _ _ _ us hl => match us, hl with | [_], _ => rfl
  have F_law_moved := fun_mk (st := s_law_moved) l_law_moved c_law_moved k_law_moved
  have b_law_moved := F_law_moved.binds (ps := ["shape", "step"]) fun _ _ _ _ _ _ us hl => match us, hl with | [_, _], _ => rfl
  have F_law_moves := fun_mk (st := s_law_moves) l_law_moves c_law_moves k_law_moves
  have b_law_moves := F_law_moves.binds (ps := ["shapes", "step", "other"]) fun _ _ _ _ _ _ us hl => match us, hl with | [_, _, _], _ => rfl
  have F_law := fun_mk (st := s_law) l_law c_law k_law
  have b_law := F_law.binds (ps := ["script"]) fun _ _ _ _ _ _ us hl => match us, hl with | [_], _ => rfl
  have Fi_Move := fun_mk (st := si_Move) li_Move ci_Move ki_Move
  have bi_Move := Fi_Move.binds (ps := ["self", "step", "plan"]) fun _ _ _ _ _ _ us hl => match us, hl with | [_, _, _], _ => rfl
  have T : Txt K mg := ⟨f_law_take, _, F_law_take, PySem.W.mg_of X G a_law_take, b_law_take, f_law_shape, _, F_law_shape, PySem.W.mg_of X G a_law_shape, b_law_shape, f_law_step, _, F_law_step, PySem.W.mg_of X G a_law_step, b_law_step, f_law_deal, _, F_law_deal, PySem.W.mg_of X G a_law_deal, b_law_deal, f_law_same, _, F_law_same, PySem.W.mg_of X G a_law_same, b_law_same, f_Plan_made, _, F_Plan_made, b_Plan_made, f_Nothing_made, _, F_Nothing_made, b_Nothing_made, f_Everything_made, _, F_Everything_made, b_Everything_made, f_moved_cell, _, F_moved_cell, PySem.W.mg_of X G a_moved_cell, b_moved_cell, f_moved, _, F_moved, PySem.W.mg_of X G a_moved, b_moved, f_Plan_done, _, F_Plan_done, b_Plan_done, f_Move_made, _, F_Move_made, b_Move_made, f_law_makes, _, F_law_makes, PySem.W.mg_of X G a_law_makes, b_law_makes, f_Plan_parts_in, _, F_Plan_parts_in, b_Plan_parts_in, f_Move_parts_in, _, F_Move_parts_in, b_Move_parts_in, f_law_leaf, _, F_law_leaf, PySem.W.mg_of X G a_law_leaf, b_law_leaf, f_law_leaves, _, F_law_leaves, PySem.W.mg_of X G a_law_leaves, b_law_leaves, f_law_moved, _, F_law_moved, PySem.W.mg_of X G a_law_moved, b_law_moved, f_law_moves, _, F_law_moves, PySem.W.mg_of X G a_law_moves, b_law_moves, fa, _, F_law, PySem.W.mg_of X G a_law, b_law, PySem.W.mg_none_of X G z_all, PySem.W.mg_none_of X G z_bool, PySem.W.mg_none_of X G z_int, PySem.W.mg_none_of X G z_isinstance, PySem.W.mg_none_of X G z_len, PySem.W.mg_none_of X G z_list, PySem.W.mg_none_of X G z_range, PySem.W.mg_none_of X G z_set, PySem.W.mg_none_of X G z_sorted, PySem.W.mg_none_of X G z_str, PySem.W.mg_none_of X G z_tuple, PySem.W.mg_none_of X G z_zip, _, PySem.W.mg_of X G n_MOST_MADE, c_Move, PySem.W.mg_of X G nc_Move, nc_Move, CL_Move, c_Everything, PySem.W.mg_of X G nc_Everything, nc_Everything, CL_Everything, c_Nothing, PySem.W.mg_of X G nc_Nothing, nc_Nothing, CL_Nothing, c_Keep, PySem.W.mg_of X G nc_Keep, nc_Keep, CL_Keep, c_Plan, PySem.W.mg_of X G nc_Plan, nc_Plan, CL_Plan, CO_Keep, CO_Nothing, CO_Everything, fi_Move, _, Fi_Move, bi_Move, MK_Move, na_Move_plan, na_Move_step, ⟨mf_Move_made, mi_Move_made, k_Move_made⟩, ⟨mf_Everything_made, mi_Everything_made, k_Everything_made⟩, ⟨mf_Nothing_made, mi_Nothing_made, k_Nothing_made⟩, ⟨mf_Keep_made, mi_Plan_made, k_Plan_made⟩, ⟨mf_Move_done, mi_Plan_done, k_Plan_done⟩, ⟨mf_Everything_done, mi_Plan_done, k_Plan_done⟩, ⟨mf_Nothing_done, mi_Plan_done, k_Plan_done⟩, ⟨mf_Keep_done, mi_Plan_done, k_Plan_done⟩, ⟨mf_Move_parts_in, mi_Move_parts_in, k_Move_parts_in⟩, ⟨mf_Everything_parts_in, mi_Plan_parts_in, k_Plan_parts_in⟩, ⟨mf_Nothing_parts_in, mi_Plan_parts_in, k_Plan_parts_in⟩, ⟨mf_Keep_parts_in, mi_Plan_parts_in, k_Plan_parts_in⟩, (isi_cons nc_Keep ⟨CL_Keep, ia_Keep, sp0, tk0, mr_Keep⟩ (kit_ref hd_Plan ty_Plan su_Keep_Plan (fun h => nomatch h)) (isi_cons nc_Nothing ⟨CL_Nothing, ia_Nothing, sp0, tk0, mr_Nothing⟩ (kit_ref hd_Plan ty_Plan su_Nothing_Plan (fun h => nomatch h)) (isi_cons nc_Everything ⟨CL_Everything, ia_Everything, sp0, tk0, mr_Everything⟩ (kit_ref hd_Plan ty_Plan su_Everything_Plan (fun h => nomatch h)) (isi_cons nc_Move ⟨CL_Move, ia_Move, sp0, tk0, mr_Move⟩ (kit_ref hd_Plan ty_Plan su_Move_Plan (fun h => nomatch h)) isi_nil)))), (isi_cons nc_Keep ⟨CL_Keep, ia_Keep, sp0, tk0, mr_Keep⟩ (kit_ref hd_Move ty_Move su_Keep_Move (fun _ => ne_Keep_Move)) (isi_cons nc_Nothing ⟨CL_Nothing, ia_Nothing, sp0, tk0, mr_Nothing⟩ (kit_ref hd_Move ty_Move su_Nothing_Move (fun _ => ne_Nothing_Move)) (isi_cons nc_Everything ⟨CL_Everything, ia_Everything, sp0, tk0, mr_Everything⟩ (kit_ref hd_Move ty_Move su_Everything_Move (fun _ => ne_Everything_Move)) (isi_cons nc_Move ⟨CL_Move, ia_Move, sp0, tk0, mr_Move⟩ (kit_ref hd_Move ty_Move su_Move_Move (fun h => nomatch h)) isi_nil)))), (isi_cons nc_Keep ⟨CL_Keep, ia_Keep, sp0, tk0, mr_Keep⟩ (kitAny_cons (kit_ref hd_Nothing ty_Nothing su_Keep_Nothing (fun _ => ne_Keep_Nothing)) (fun _ => (kitAny_cons (kit_ref hd_Everything ty_Everything su_Keep_Everything (fun _ => ne_Keep_Everything)) (fun _ => rfl) (fun h => nomatch h))) (fun h => nomatch h)) (isi_cons nc_Nothing ⟨CL_Nothing, ia_Nothing, sp0, tk0, mr_Nothing⟩ (kitAny_cons (kit_ref hd_Nothing ty_Nothing su_Nothing_Nothing (fun h => nomatch h)) (fun h => nomatch h) (fun _ => rfl)) (isi_cons nc_Everything ⟨CL_Everything, ia_Everything, sp0, tk0, mr_Everything⟩ (kitAny_cons (kit_ref hd_Nothing ty_Nothing su_Everything_Nothing (fun _ => ne_Everything_Nothing)) (fun _ => (kitAny_cons (kit_ref hd_Everything ty_Everything su_Everything_Everything (fun h => nomatch h)) (fun h => nomatch h) (fun _ => rfl))) (fun h => nomatch h)) (isi_cons nc_Move ⟨CL_Move, ia_Move, sp0, tk0, mr_Move⟩ (kitAny_cons (kit_ref hd_Nothing ty_Nothing su_Move_Nothing (fun _ => ne_Move_Nothing)) (fun _ => (kitAny_cons (kit_ref hd_Everything ty_Everything su_Move_Everything (fun _ => ne_Move_Everything)) (fun _ => rfl) (fun h => nomatch h))) (fun h => nomatch h)) isi_nil)))), (isi_cons nc_Keep ⟨CL_Keep, ia_Keep, sp0, tk0, mr_Keep⟩ (kitAny_cons (kit_ref hd_Keep ty_Keep su_Keep_Keep (fun h => nomatch h)) (fun h => nomatch h) (fun _ => rfl)) (isi_cons nc_Nothing ⟨CL_Nothing, ia_Nothing, sp0, tk0, mr_Nothing⟩ (kitAny_cons (kit_ref hd_Keep ty_Keep su_Nothing_Keep (fun _ => ne_Nothing_Keep)) (fun _ => (kitAny_cons (kit_ref hd_Everything ty_Everything su_Nothing_Everything (fun _ => ne_Nothing_Everything)) (fun _ => rfl) (fun h => nomatch h))) (fun h => nomatch h)) (isi_cons nc_Everything ⟨CL_Everything, ia_Everything, sp0, tk0, mr_Everything⟩ (kitAny_cons (kit_ref hd_Keep ty_Keep su_Everything_Keep (fun _ => ne_Everything_Keep)) (fun _ => (kitAny_cons (kit_ref hd_Everything ty_Everything su_Everything_Everything (fun h => nomatch h)) (fun h => nomatch h) (fun _ => rfl))) (fun h => nomatch h)) (isi_cons nc_Move ⟨CL_Move, ia_Move, sp0, tk0, mr_Move⟩ (kitAny_cons (kit_ref hd_Keep ty_Keep su_Move_Keep (fun _ => ne_Move_Keep)) (fun _ => (kitAny_cons (kit_ref hd_Everything ty_Everything su_Move_Everything (fun _ => ne_Move_Everything)) (fun _ => rfl) (fun h => nomatch h))) (fun h => nomatch h)) isi_nil)))), (isi_cons nc_Keep ⟨CL_Keep, ia_Keep, sp0, tk0, mr_Keep⟩ (kit_ref hd_Keep ty_Keep su_Keep_Keep (fun h => nomatch h)) (isi_cons nc_Nothing ⟨CL_Nothing, ia_Nothing, sp0, tk0, mr_Nothing⟩ (kit_ref hd_Keep ty_Keep su_Nothing_Keep (fun _ => ne_Nothing_Keep)) (isi_cons nc_Everything ⟨CL_Everything, ia_Everything, sp0, tk0, mr_Everything⟩ (kit_ref hd_Keep ty_Keep su_Everything_Keep (fun _ => ne_Everything_Keep)) (isi_cons nc_Move ⟨CL_Move, ia_Move, sp0, tk0, mr_Move⟩ (kit_ref hd_Keep ty_Keep su_Move_Keep (fun _ => ne_Move_Keep)) isi_nil)))), (isi_cons nc_Keep ⟨CL_Keep, ia_Keep, sp0, tk0, mr_Keep⟩ (kitAny_cons (kit_ref hd_Keep ty_Keep su_Keep_Keep (fun h => nomatch h)) (fun h => nomatch h) (fun _ => rfl)) (isi_cons nc_Nothing ⟨CL_Nothing, ia_Nothing, sp0, tk0, mr_Nothing⟩ (kitAny_cons (kit_ref hd_Keep ty_Keep su_Nothing_Keep (fun _ => ne_Nothing_Keep)) (fun _ => (kitAny_cons (kit_ref hd_Nothing ty_Nothing su_Nothing_Nothing (fun h => nomatch h)) (fun h => nomatch h) (fun _ => rfl))) (fun h => nomatch h)) (isi_cons nc_Everything ⟨CL_Everything, ia_Everything, sp0, tk0, mr_Everything⟩ (kitAny_cons (kit_ref hd_Keep ty_Keep su_Everything_Keep (fun _ => ne_Everything_Keep)) (fun _ => (kitAny_cons (kit_ref hd_Nothing ty_Nothing su_Everything_Nothing (fun _ => ne_Everything_Nothing)) (fun _ => (kitAny_cons (kit_ref hd_Everything ty_Everything su_Everything_Everything (fun h => nomatch h)) (fun h => nomatch h) (fun _ => rfl))) (fun h => nomatch h))) (fun h => nomatch h)) (isi_cons nc_Move ⟨CL_Move, ia_Move, sp0, tk0, mr_Move⟩ (kitAny_cons (kit_ref hd_Keep ty_Keep su_Move_Keep (fun _ => ne_Move_Keep)) (fun _ => (kitAny_cons (kit_ref hd_Nothing ty_Nothing su_Move_Nothing (fun _ => ne_Move_Nothing)) (fun _ => (kitAny_cons (kit_ref hd_Everything ty_Everything su_Move_Everything (fun _ => ne_Move_Everything)) (fun _ => rfl) (fun h => nomatch h))) (fun h => nomatch h))) (fun h => nomatch h)) isi_nil))))⟩
  exact ⟨PySem.W.fnOf "law" "law" (defArgs s_law) (defBody s_law) (defScope s_law) .none kV_law dc_law pm_law an_law cd_law ct_law, fun s v => .of_eq rfl, fun base _ _ => ok_law ⟨f_law_take, _, F_law_take, PySem.W.mg_of X G a_law_take, b_law_take, f_law_shape, _, F_law_shape, PySem.W.mg_of X G a_law_shape, b_law_shape, f_law_step, _, F_law_step, PySem.W.mg_of X G a_law_step, b_law_step, f_law_deal, _, F_law_deal, PySem.W.mg_of X G a_law_deal, b_law_deal, f_law_same, _, F_law_same, PySem.W.mg_of X G a_law_same, b_law_same, f_Plan_made, _, F_Plan_made, b_Plan_made, f_Nothing_made, _, F_Nothing_made, b_Nothing_made, f_Everything_made, _, F_Everything_made, b_Everything_made, f_moved_cell, _, F_moved_cell, PySem.W.mg_of X G a_moved_cell, b_moved_cell, f_moved, _, F_moved, PySem.W.mg_of X G a_moved, b_moved, f_Plan_done, _, F_Plan_done, b_Plan_done, f_Move_made, _, F_Move_made, b_Move_made, f_law_makes, _, F_law_makes, PySem.W.mg_of X G a_law_makes, b_law_makes, f_Plan_parts_in, _, F_Plan_parts_in, b_Plan_parts_in, f_Move_parts_in, _, F_Move_parts_in, b_Move_parts_in, f_law_leaf, _, F_law_leaf, PySem.W.mg_of X G a_law_leaf, b_law_leaf, f_law_leaves, _, F_law_leaves, PySem.W.mg_of X G a_law_leaves, b_law_leaves, f_law_moved, _, F_law_moved, PySem.W.mg_of X G a_law_moved, b_law_moved, f_law_moves, _, F_law_moves, PySem.W.mg_of X G a_law_moves, b_law_moves, fa, _, F_law, PySem.W.mg_of X G a_law, b_law, PySem.W.mg_none_of X G z_all, PySem.W.mg_none_of X G z_bool, PySem.W.mg_none_of X G z_int, PySem.W.mg_none_of X G z_isinstance, PySem.W.mg_none_of X G z_len, PySem.W.mg_none_of X G z_list, PySem.W.mg_none_of X G z_range, PySem.W.mg_none_of X G z_set, PySem.W.mg_none_of X G z_sorted, PySem.W.mg_none_of X G z_str, PySem.W.mg_none_of X G z_tuple, PySem.W.mg_none_of X G z_zip, _, PySem.W.mg_of X G n_MOST_MADE, c_Move, PySem.W.mg_of X G nc_Move, nc_Move, CL_Move, c_Everything, PySem.W.mg_of X G nc_Everything, nc_Everything, CL_Everything, c_Nothing, PySem.W.mg_of X G nc_Nothing, nc_Nothing, CL_Nothing, c_Keep, PySem.W.mg_of X G nc_Keep, nc_Keep, CL_Keep, c_Plan, PySem.W.mg_of X G nc_Plan, nc_Plan, CL_Plan, CO_Keep, CO_Nothing, CO_Everything, fi_Move, _, Fi_Move, bi_Move, MK_Move, na_Move_plan, na_Move_step, ⟨mf_Move_made, mi_Move_made, k_Move_made⟩, ⟨mf_Everything_made, mi_Everything_made, k_Everything_made⟩, ⟨mf_Nothing_made, mi_Nothing_made, k_Nothing_made⟩, ⟨mf_Keep_made, mi_Plan_made, k_Plan_made⟩, ⟨mf_Move_done, mi_Plan_done, k_Plan_done⟩, ⟨mf_Everything_done, mi_Plan_done, k_Plan_done⟩, ⟨mf_Nothing_done, mi_Plan_done, k_Plan_done⟩, ⟨mf_Keep_done, mi_Plan_done, k_Plan_done⟩, ⟨mf_Move_parts_in, mi_Move_parts_in, k_Move_parts_in⟩, ⟨mf_Everything_parts_in, mi_Plan_parts_in, k_Plan_parts_in⟩, ⟨mf_Nothing_parts_in, mi_Plan_parts_in, k_Plan_parts_in⟩, ⟨mf_Keep_parts_in, mi_Plan_parts_in, k_Plan_parts_in⟩, (isi_cons nc_Keep ⟨CL_Keep, ia_Keep, sp0, tk0, mr_Keep⟩ (kit_ref hd_Plan ty_Plan su_Keep_Plan (fun h => nomatch h)) (isi_cons nc_Nothing ⟨CL_Nothing, ia_Nothing, sp0, tk0, mr_Nothing⟩ (kit_ref hd_Plan ty_Plan su_Nothing_Plan (fun h => nomatch h)) (isi_cons nc_Everything ⟨CL_Everything, ia_Everything, sp0, tk0, mr_Everything⟩ (kit_ref hd_Plan ty_Plan su_Everything_Plan (fun h => nomatch h)) (isi_cons nc_Move ⟨CL_Move, ia_Move, sp0, tk0, mr_Move⟩ (kit_ref hd_Plan ty_Plan su_Move_Plan (fun h => nomatch h)) isi_nil)))), (isi_cons nc_Keep ⟨CL_Keep, ia_Keep, sp0, tk0, mr_Keep⟩ (kit_ref hd_Move ty_Move su_Keep_Move (fun _ => ne_Keep_Move)) (isi_cons nc_Nothing ⟨CL_Nothing, ia_Nothing, sp0, tk0, mr_Nothing⟩ (kit_ref hd_Move ty_Move su_Nothing_Move (fun _ => ne_Nothing_Move)) (isi_cons nc_Everything ⟨CL_Everything, ia_Everything, sp0, tk0, mr_Everything⟩ (kit_ref hd_Move ty_Move su_Everything_Move (fun _ => ne_Everything_Move)) (isi_cons nc_Move ⟨CL_Move, ia_Move, sp0, tk0, mr_Move⟩ (kit_ref hd_Move ty_Move su_Move_Move (fun h => nomatch h)) isi_nil)))), (isi_cons nc_Keep ⟨CL_Keep, ia_Keep, sp0, tk0, mr_Keep⟩ (kitAny_cons (kit_ref hd_Nothing ty_Nothing su_Keep_Nothing (fun _ => ne_Keep_Nothing)) (fun _ => (kitAny_cons (kit_ref hd_Everything ty_Everything su_Keep_Everything (fun _ => ne_Keep_Everything)) (fun _ => rfl) (fun h => nomatch h))) (fun h => nomatch h)) (isi_cons nc_Nothing ⟨CL_Nothing, ia_Nothing, sp0, tk0, mr_Nothing⟩ (kitAny_cons (kit_ref hd_Nothing ty_Nothing su_Nothing_Nothing (fun h => nomatch h)) (fun h => nomatch h) (fun _ => rfl)) (isi_cons nc_Everything ⟨CL_Everything, ia_Everything, sp0, tk0, mr_Everything⟩ (kitAny_cons (kit_ref hd_Nothing ty_Nothing su_Everything_Nothing (fun _ => ne_Everything_Nothing)) (fun _ => (kitAny_cons (kit_ref hd_Everything ty_Everything su_Everything_Everything (fun h => nomatch h)) (fun h => nomatch h) (fun _ => rfl))) (fun h => nomatch h)) (isi_cons nc_Move ⟨CL_Move, ia_Move, sp0, tk0, mr_Move⟩ (kitAny_cons (kit_ref hd_Nothing ty_Nothing su_Move_Nothing (fun _ => ne_Move_Nothing)) (fun _ => (kitAny_cons (kit_ref hd_Everything ty_Everything su_Move_Everything (fun _ => ne_Move_Everything)) (fun _ => rfl) (fun h => nomatch h))) (fun h => nomatch h)) isi_nil)))), (isi_cons nc_Keep ⟨CL_Keep, ia_Keep, sp0, tk0, mr_Keep⟩ (kitAny_cons (kit_ref hd_Keep ty_Keep su_Keep_Keep (fun h => nomatch h)) (fun h => nomatch h) (fun _ => rfl)) (isi_cons nc_Nothing ⟨CL_Nothing, ia_Nothing, sp0, tk0, mr_Nothing⟩ (kitAny_cons (kit_ref hd_Keep ty_Keep su_Nothing_Keep (fun _ => ne_Nothing_Keep)) (fun _ => (kitAny_cons (kit_ref hd_Everything ty_Everything su_Nothing_Everything (fun _ => ne_Nothing_Everything)) (fun _ => rfl) (fun h => nomatch h))) (fun h => nomatch h)) (isi_cons nc_Everything ⟨CL_Everything, ia_Everything, sp0, tk0, mr_Everything⟩ (kitAny_cons (kit_ref hd_Keep ty_Keep su_Everything_Keep (fun _ => ne_Everything_Keep)) (fun _ => (kitAny_cons (kit_ref hd_Everything ty_Everything su_Everything_Everything (fun h => nomatch h)) (fun h => nomatch h) (fun _ => rfl))) (fun h => nomatch h)) (isi_cons nc_Move ⟨CL_Move, ia_Move, sp0, tk0, mr_Move⟩ (kitAny_cons (kit_ref hd_Keep ty_Keep su_Move_Keep (fun _ => ne_Move_Keep)) (fun _ => (kitAny_cons (kit_ref hd_Everything ty_Everything su_Move_Everything (fun _ => ne_Move_Everything)) (fun _ => rfl) (fun h => nomatch h))) (fun h => nomatch h)) isi_nil)))), (isi_cons nc_Keep ⟨CL_Keep, ia_Keep, sp0, tk0, mr_Keep⟩ (kit_ref hd_Keep ty_Keep su_Keep_Keep (fun h => nomatch h)) (isi_cons nc_Nothing ⟨CL_Nothing, ia_Nothing, sp0, tk0, mr_Nothing⟩ (kit_ref hd_Keep ty_Keep su_Nothing_Keep (fun _ => ne_Nothing_Keep)) (isi_cons nc_Everything ⟨CL_Everything, ia_Everything, sp0, tk0, mr_Everything⟩ (kit_ref hd_Keep ty_Keep su_Everything_Keep (fun _ => ne_Everything_Keep)) (isi_cons nc_Move ⟨CL_Move, ia_Move, sp0, tk0, mr_Move⟩ (kit_ref hd_Keep ty_Keep su_Move_Keep (fun _ => ne_Move_Keep)) isi_nil)))), (isi_cons nc_Keep ⟨CL_Keep, ia_Keep, sp0, tk0, mr_Keep⟩ (kitAny_cons (kit_ref hd_Keep ty_Keep su_Keep_Keep (fun h => nomatch h)) (fun h => nomatch h) (fun _ => rfl)) (isi_cons nc_Nothing ⟨CL_Nothing, ia_Nothing, sp0, tk0, mr_Nothing⟩ (kitAny_cons (kit_ref hd_Keep ty_Keep su_Nothing_Keep (fun _ => ne_Nothing_Keep)) (fun _ => (kitAny_cons (kit_ref hd_Nothing ty_Nothing su_Nothing_Nothing (fun h => nomatch h)) (fun h => nomatch h) (fun _ => rfl))) (fun h => nomatch h)) (isi_cons nc_Everything ⟨CL_Everything, ia_Everything, sp0, tk0, mr_Everything⟩ (kitAny_cons (kit_ref hd_Keep ty_Keep su_Everything_Keep (fun _ => ne_Everything_Keep)) (fun _ => (kitAny_cons (kit_ref hd_Nothing ty_Nothing su_Everything_Nothing (fun _ => ne_Everything_Nothing)) (fun _ => (kitAny_cons (kit_ref hd_Everything ty_Everything su_Everything_Everything (fun h => nomatch h)) (fun h => nomatch h) (fun _ => rfl))) (fun h => nomatch h))) (fun h => nomatch h)) (isi_cons nc_Move ⟨CL_Move, ia_Move, sp0, tk0, mr_Move⟩ (kitAny_cons (kit_ref hd_Keep ty_Keep su_Move_Keep (fun _ => ne_Move_Keep)) (fun _ => (kitAny_cons (kit_ref hd_Nothing ty_Nothing su_Move_Nothing (fun _ => ne_Move_Nothing)) (fun _ => (kitAny_cons (kit_ref hd_Everything ty_Everything su_Move_Everything (fun _ => ne_Move_Everything)) (fun _ => rfl) (fun h => nomatch h))) (fun h => nomatch h))) (fun h => nomatch h)) isi_nil))))⟩⟩
end K38
open PySem PySem.W PyProof.Rows in
set_option maxRecDepth 100000 in
set_option maxHeartbeats 0 in
theorem PySem.Challenge.cw_edgemoss_k38_leaves_and_moves_holds : PySem.Challenge.rw_edgemoss_k38_leaves_and_moves.Holds := by
  w_on; o_law; k_head; (case hw => w_witness2)
  k_fill
  refine E3.walk_e3 (l := PySem.Challenge.rw_edgemoss_k38_leaves_and_moves) (k := 70) (FL := K38.D_law) rfl rfl ⟨rfl, by decide, by decide⟩ (fun w h Y => PySem.W.kIn_of Y) ?F K38.law_true
  case F =>
    intro w mg fa h KX G hmg
    refine' K38.all_mk KX G hmg ?nc_Move ?CL_Move ?nc_Everything ?CL_Everything ?nc_Nothing ?CL_Nothing ?nc_Keep ?CL_Keep ?nc_Plan ?CL_Plan ?CO_Keep ?CO_Nothing ?CO_Everything ?ii_Move ?li_Move ?ci_Move ?ki_Move ?MK_Move ?na_Move_plan ?na_Move_step ?mf_Move_made ?mf_Everything_made ?mf_Nothing_made ?mf_Keep_made ?mf_Move_done ?mf_Everything_done ?mf_Nothing_done ?mf_Keep_done ?mf_Move_parts_in ?mf_Everything_parts_in ?mf_Nothing_parts_in ?mf_Keep_parts_in ?sp0 ?tk0 ?ia_Keep ?mr_Keep ?ia_Nothing ?mr_Nothing ?ia_Everything ?mr_Everything ?ia_Move ?mr_Move ?hd_Plan ?ty_Plan ?su_Keep_Plan ?su_Nothing_Plan ?su_Everything_Plan ?su_Move_Plan ?hd_Move ?ty_Move ?su_Keep_Move ?ne_Keep_Move ?su_Nothing_Move ?ne_Nothing_Move ?su_Everything_Move ?ne_Everything_Move ?su_Move_Move ?hd_Nothing ?ty_Nothing ?su_Keep_Nothing ?ne_Keep_Nothing ?su_Nothing_Nothing ?su_Everything_Nothing ?ne_Everything_Nothing ?su_Move_Nothing ?ne_Move_Nothing ?hd_Everything ?ty_Everything ?su_Keep_Everything ?ne_Keep_Everything ?su_Nothing_Everything ?ne_Nothing_Everything ?su_Everything_Everything ?su_Move_Everything ?ne_Move_Everything ?hd_Keep ?ty_Keep ?su_Keep_Keep ?su_Nothing_Keep ?ne_Nothing_Keep ?su_Everything_Keep ?ne_Everything_Keep ?su_Move_Keep ?ne_Move_Keep ?a_law_take ?l_law_take ?c_law_take ?k_law_take ?a_law_shape ?l_law_shape ?c_law_shape ?k_law_shape ?a_law_step ?l_law_step ?c_law_step ?k_law_step ?a_law_deal ?l_law_deal ?c_law_deal ?k_law_deal ?a_law_same ?l_law_same ?c_law_same ?k_law_same ?mi_Plan_made ?l_Plan_made ?c_Plan_made ?k_Plan_made ?mi_Nothing_made ?l_Nothing_made ?c_Nothing_made ?k_Nothing_made ?mi_Everything_made ?l_Everything_made ?c_Everything_made ?k_Everything_made ?a_moved_cell ?l_moved_cell ?c_moved_cell ?k_moved_cell ?a_moved ?l_moved ?c_moved ?k_moved ?mi_Plan_done ?l_Plan_done ?c_Plan_done ?k_Plan_done ?mi_Move_made ?l_Move_made ?c_Move_made ?k_Move_made ?a_law_makes ?l_law_makes ?c_law_makes ?k_law_makes ?mi_Plan_parts_in ?l_Plan_parts_in ?c_Plan_parts_in ?k_Plan_parts_in ?mi_Move_parts_in ?l_Move_parts_in ?c_Move_parts_in ?k_Move_parts_in ?a_law_leaf ?l_law_leaf ?c_law_leaf ?k_law_leaf ?a_law_leaves ?l_law_leaves ?c_law_leaves ?k_law_leaves ?a_law_moved ?l_law_moved ?c_law_moved ?k_law_moved ?a_law_moves ?l_law_moves ?c_law_moves ?k_law_moves ?a_law ?l_law ?c_law ?k_law ?z_all ?z_bool ?z_int ?z_isinstance ?z_len ?z_list ?z_range ?z_set ?z_sorted ?z_str ?z_tuple ?z_zip ?n_MOST_MADE
    (case nc_Move => k_is)
    (case CL_Move => (constructor <;> k_is))
    (case nc_Everything => k_is)
    (case CL_Everything => (constructor <;> k_is))
    (case nc_Nothing => k_is)
    (case CL_Nothing => (constructor <;> k_is))
    (case nc_Keep => k_is)
    (case CL_Keep => (constructor <;> k_is))
    (case nc_Plan => k_is)
    (case CL_Plan => (constructor <;> k_is))
    (case CO_Keep => (constructor <;> k_is))
    (case CO_Nothing => (constructor <;> k_is))
    (case CO_Everything => (constructor <;> k_is))
    (case ii_Move => k_is)
    (case li_Move => k_is)
    (case ci_Move => k_is)
    (case ki_Move => k_is)
    (case MK_Move => (constructor <;> k_is))
    (case na_Move_plan => k_is)
    (case na_Move_step => k_is)
    (case mf_Move_made => k_is)
    (case mf_Everything_made => k_is)
    (case mf_Nothing_made => k_is)
    (case mf_Keep_made => k_is)
    (case mf_Move_done => k_is)
    (case mf_Everything_done => k_is)
    (case mf_Nothing_done => k_is)
    (case mf_Keep_done => k_is)
    (case mf_Move_parts_in => k_is)
    (case mf_Everything_parts_in => k_is)
    (case mf_Nothing_parts_in => k_is)
    (case mf_Keep_parts_in => k_is)
    (case sp0 => k_is)
    (case tk0 => k_is)
    (case ia_Keep => k_is)
    (case mr_Keep => k_is)
    (case ia_Nothing => k_is)
    (case mr_Nothing => k_is)
    (case ia_Everything => k_is)
    (case mr_Everything => k_is)
    (case ia_Move => k_is)
    (case mr_Move => k_is)
    (case hd_Plan => k_is)
    (case ty_Plan => k_is)
    (case su_Keep_Plan => k_is)
    (case su_Nothing_Plan => k_is)
    (case su_Everything_Plan => k_is)
    (case su_Move_Plan => k_is)
    (case hd_Move => k_is)
    (case ty_Move => k_is)
    (case su_Keep_Move => k_is)
    (case ne_Keep_Move => decide)
    (case su_Nothing_Move => k_is)
    (case ne_Nothing_Move => decide)
    (case su_Everything_Move => k_is)
    (case ne_Everything_Move => decide)
    (case su_Move_Move => k_is)
    (case hd_Nothing => k_is)
    (case ty_Nothing => k_is)
    (case su_Keep_Nothing => k_is)
    (case ne_Keep_Nothing => decide)
    (case su_Nothing_Nothing => k_is)
    (case su_Everything_Nothing => k_is)
    (case ne_Everything_Nothing => decide)
    (case su_Move_Nothing => k_is)
    (case ne_Move_Nothing => decide)
    (case hd_Everything => k_is)
    (case ty_Everything => k_is)
    (case su_Keep_Everything => k_is)
    (case ne_Keep_Everything => decide)
    (case su_Nothing_Everything => k_is)
    (case ne_Nothing_Everything => decide)
    (case su_Everything_Everything => k_is)
    (case su_Move_Everything => k_is)
    (case ne_Move_Everything => decide)
    (case hd_Keep => k_is)
    (case ty_Keep => k_is)
    (case su_Keep_Keep => k_is)
    (case su_Nothing_Keep => k_is)
    (case ne_Nothing_Keep => decide)
    (case su_Everything_Keep => k_is)
    (case ne_Everything_Keep => decide)
    (case su_Move_Keep => k_is)
    (case ne_Move_Keep => decide)
    (case a_law_take => k_is)
    (case l_law_take => k_is)
    (case c_law_take => k_is)
    (case k_law_take => k_is)
    (case a_law_shape => k_is)
    (case l_law_shape => k_is)
    (case c_law_shape => k_is)
    (case k_law_shape => k_is)
    (case a_law_step => k_is)
    (case l_law_step => k_is)
    (case c_law_step => k_is)
    (case k_law_step => k_is)
    (case a_law_deal => k_is)
    (case l_law_deal => k_is)
    (case c_law_deal => k_is)
    (case k_law_deal => k_is)
    (case a_law_same => k_is)
    (case l_law_same => k_is)
    (case c_law_same => k_is)
    (case k_law_same => k_is)
    (case mi_Plan_made => k_is)
    (case l_Plan_made => k_is)
    (case c_Plan_made => k_is)
    (case k_Plan_made => k_is)
    (case mi_Nothing_made => k_is)
    (case l_Nothing_made => k_is)
    (case c_Nothing_made => k_is)
    (case k_Nothing_made => k_is)
    (case mi_Everything_made => k_is)
    (case l_Everything_made => k_is)
    (case c_Everything_made => k_is)
    (case k_Everything_made => k_is)
    (case a_moved_cell => k_is)
    (case l_moved_cell => k_is)
    (case c_moved_cell => k_is)
    (case k_moved_cell => k_is)
    (case a_moved => k_is)
    (case l_moved => k_is)
    (case c_moved => k_is)
    (case k_moved => k_is)
    (case mi_Plan_done => k_is)
    (case l_Plan_done => k_is)
    (case c_Plan_done => k_is)
    (case k_Plan_done => k_is)
    (case mi_Move_made => k_is)
    (case l_Move_made => k_is)
    (case c_Move_made => k_is)
    (case k_Move_made => k_is)
    (case a_law_makes => k_is)
    (case l_law_makes => k_is)
    (case c_law_makes => k_is)
    (case k_law_makes => k_is)
    (case mi_Plan_parts_in => k_is)
    (case l_Plan_parts_in => k_is)
    (case c_Plan_parts_in => k_is)
    (case k_Plan_parts_in => k_is)
    (case mi_Move_parts_in => k_is)
    (case l_Move_parts_in => k_is)
    (case c_Move_parts_in => k_is)
    (case k_Move_parts_in => k_is)
    (case a_law_leaf => k_is)
    (case l_law_leaf => k_is)
    (case c_law_leaf => k_is)
    (case k_law_leaf => k_is)
    (case a_law_leaves => k_is)
    (case l_law_leaves => k_is)
    (case c_law_leaves => k_is)
    (case k_law_leaves => k_is)
    (case a_law_moved => k_is)
    (case l_law_moved => k_is)
    (case c_law_moved => k_is)
    (case k_law_moved => k_is)
    (case a_law_moves => k_is)
    (case l_law_moves => k_is)
    (case c_law_moves => k_is)
    (case k_law_moves => k_is)
    (case a_law => k_is)
    (case l_law => k_is)
    (case c_law => k_is)
    (case k_law => k_is)
    (case z_all => k_is)
    (case z_bool => k_is)
    (case z_int => k_is)
    (case z_isinstance => k_is)
    (case z_len => k_is)
    (case z_list => k_is)
    (case z_range => k_is)
    (case z_set => k_is)
    (case z_sorted => k_is)
    (case z_str => k_is)
    (case z_tuple => k_is)
    (case z_zip => k_is)
    (case n_MOST_MADE => k_is)

