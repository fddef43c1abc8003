import PyProof.Rows.All
import Wide.All
import OpenK.AllK
import Wide.FinOn
import HandS.ForMost
import HandS.ForExc
import HandS.Deep
import HandS.Zip
import HandS.TupAny
import HandS.WideBits
import HandS.Wide
import HandS.Conv
import HandS.IsInst
import KE.SortData
import HandS.TupSets
import HandS.EndBits
import KE.DataMinMax
import KE.KDictSum
import HandS.TupLen
import HandS.DictTup
import PyProof.DictMoreH
import HandS.DictEq
import HandS.Iter
import PySem.Challenge.RW_edgemoss_k73_loose_cells_and_comers
set_option Elab.async false
set_option linter.all false
set_option maxRecDepth 100000
set_option maxHeartbeats 4000000
namespace E3
open PySem PySem.Spec PyProof.Rows L2

abbrev D := PyData
abbrev DS := List (Option D)

def LsQ (K : PySem.W.Frag) (H : Hp) (a : Addr) (xs : List V) : Prop :=
  Rd H a (.lst xs) ∨ ∃ (its : Array Value) (n : Nat), K.lookup a = some { cls := .type "list", data := .seq its n } ∧ its.size ≤ sizeLine ∧ Vals xs its.toList
theorem LsQ.sq {K : PySem.W.Frag} {H : Hp} {a : Addr} {xs : List V} (h : LsQ K H a xs) : SqL K H a xs := by
  rcases h with h | ⟨its, n, h1, h2, h3⟩
  · exact .inl h
  · exact .inr ⟨_, its, n, h1, rfl, rfl, rfl, h2, h3⟩
theorem LsQ.at {X : Cx} {pins : List (Addr × Obj)} {σ : L2.St} {H : Hp} {s : Shared} {a : Addr} {xs : List V} (h : LsQ X.K H a xs) (I : Inv X pins σ H s) :
    xs.length ≤ sizeLine ∧ ∃ (its : List Value) (n : Nat), Vals xs its ∧ s.heap.get? a = some { cls := .type "list", data := .seq its.toArray n } := by
  rcases h with h | ⟨its, n, h1, h2, h3⟩
  · obtain ⟨z, i1, n, r, e⟩ := h.ok I.hok
    exact ⟨z, i1, n, r, e⟩
  · refine ⟨?_, its.toList, n, h3, by simpa using I.kIn a _ h1⟩
    have := h3.length
    simp only [Array.length_toList] at this
    omega
def ErO (C a : Addr) (d : Option Addr) : Heap → Prop := fun h => ∃ oe vs, h.get? a = some oe ∧ Zc (.ref C) d oe ∧ oe.data = .fields vs
inductive ObT (K : PySem.W.Frag) (H : Hp) (a : Addr) (x : Str) : D → List (Str × V) → Prop
  | er {C : Addr} : PySem.W.nsIn K mainGlobals x = some (some (.ref C)) → H a = some (.ext (ErO C a none)) → ObT K H a x .none []
  | erf {C b : Addr} {f : Str} {v : V} : PySem.W.nsIn K mainGlobals x = some (some (.ref C)) → H a = some (.ext (ErO C a (some b))) → H b = some (.xd [(f, v)]) → ObT K H a x .none [(f, v)]
  | ins {C : Addr} {dx : Addr} {fs : List (Str × V)} : PySem.W.nsIn K mainGlobals x = some (some (.ref C)) → H a = some (.ins C dx fs) → ObT K H a x (.bool true) fs
  | wt {o : Obj} {its : Array Value} {n : Nat} {vs : List V} : K.lookup a = some o → o.cls = .type "tuple" → o.data = .seq its n → its.size ≤ sizeLine → Vals vs its.toList → ObT K H a x (.bool false) (vs.map fun v => (x, v))
mutual
inductive Rp (K : PySem.W.Frag) (H : Hp) : V → D → Prop
  | non : Rp K H .non .none
  | bl (b : Bool) : Rp K H (.bl b) (.bool b)
  | int (i : Int) : Rp K H (.int i) (.int i)
  | str (x : Str) : Rp K H (.str x) (.str x)
  | lst {a : Addr} {xs : List V} {ds : List D} : LsQ K H a xs → RpA K H xs ds → Rp K H (.ref a) (.list ds)
  | tup {a : Addr} {xs : List V} {ds : List D} : H a = some (.tup xs) → RpA K H xs ds → Rp K H (.ref a) (.tuple ds)
  | dT {a : Addr} {kvs : List (List Key × V)} {ds : List (D × D)} : Rd H a (.dT kvs) → RpK K H kvs ds → Rp K H (.ref a) (.dict ds)
  | ob {a : Addr} {x : Str} {k : D} {vs : List (Str × V)} {kvs : List (D × D)} : ObT K H a x k vs → RpF K H vs kvs → Rp K H (.ref a) (.dict ((k, .str x) :: kvs))
inductive RpA (K : PySem.W.Frag) (H : Hp) : List V → List D → Prop
  | nil : RpA K H [] []
  | cons {v : V} {vs : List V} {d : D} {ds : List D} : Rp K H v d → RpA K H vs ds → RpA K H (v :: vs) (d :: ds)
inductive RpK (K : PySem.W.Frag) (H : Hp) : List (List Key × V) → List (D × D) → Prop
  | nil : RpK K H [] []
  | cons {k : List Int} {v : V} {kvs : List (List Key × V)} {d : D} {ds : List (D × D)} : Rp K H v d → RpK K H kvs ds → RpK K H ((k.map Sum.inl, v) :: kvs) ((.tuple (k.map .int), d) :: ds)
inductive RpF (K : PySem.W.Frag) (H : Hp) : List (Str × V) → List (D × D) → Prop
  | nil : RpF K H [] []
  | cons {n : Str} {v : V} {vs : List (Str × V)} {d : D} {ds : List (D × D)} : Rp K H v d → RpF K H vs ds → RpF K H ((n, v) :: vs) ((.str n, d) :: ds)
end
def obK : List (D × D) → Bool
  | (.none, _) :: _ => true
  | (.bool _, _) :: _ => true
  | _ => false
theorem RpK.noOb {K : PySem.W.Frag} {H : Hp} {vs : List (List Key × V)} {ds : List (D × D)} (h : RpK K H vs ds) : obK ds = false := by cases h <;> rfl

theorem seqT_same {K : PySem.W.Frag} {H H' : Hp} {a : Addr} {xs : List V} (e : Same H H') (h : SqT K H a xs) : SqT K H' a xs := by
  rcases h with (h | ⟨o, h⟩) | h
  · exact .inl (.inl (e _ _ h))
  · exact .inl (.inr ⟨o, e _ _ h⟩)
  · exact .inr h
theorem ls_same {K : PySem.W.Frag} {H H' : Hp} {a : Addr} {xs : List V} (e : Same H H') (h : LsQ K H a xs) : LsQ K H' a xs := by
  rcases h with (h | ⟨o, h⟩) | h
  · exact .inl (.inl (e _ _ h))
  · exact .inl (.inr ⟨o, e _ _ h⟩)
  · exact .inr h
theorem rd_same {H H' : Hp} {a : Addr} {u : HO} (e : Same H H') (h : Rd H a u) : Rd H' a u := by
  rcases h with h | ⟨o, h⟩
  · exact .inl (e _ _ h)
  · exact .inr ⟨o, e _ _ h⟩
theorem ob_same {K : PySem.W.Frag} {H H' : Hp} {a : Addr} {x : Str} {k : D} {vs : List (Str × V)} (e : Same H H') (h : ObT K H a x k vs) : ObT K H' a x k vs := by
  cases h with
  | er h1 h2 => exact .er h1 (e _ _ h2)
  | erf h1 h2 h3 => exact .erf h1 (e _ _ h2) (e _ _ h3)
  | ins h1 h2 => exact .ins h1 (e _ _ h2)
  | wt h1 h2 h3 h4 h5 => exact .wt h1 h2 h3 h4 h5
section
variable {K : PySem.W.Frag} {H H' : Hp}
mutual
theorem Rp.mono (e : Same H H') : ∀ {v : V} {d : D}, Rp K H v d → Rp K H' v d
  | _, _, .non => .non
  | _, _, .bl b => .bl b
  | _, _, .int i => .int i
  | _, _, .str x => .str x
  | _, _, .lst h r => .lst (ls_same e h) (RpA.mono e r)
  | _, _, .tup h r => .tup (e _ _ h) (RpA.mono e r)
  | _, _, .dT h r => .dT (rd_same e h) (RpK.mono e r)
  | _, _, .ob h r => .ob (ob_same e h) (RpF.mono e r)
theorem RpA.mono (e : Same H H') : ∀ {vs : List V} {ds : List D}, RpA K H vs ds → RpA K H' vs ds
  | _, _, .nil => .nil
  | _, _, .cons h r => .cons (Rp.mono e h) (RpA.mono e r)
theorem RpK.mono (e : Same H H') : ∀ {vs : List (List Key × V)} {ds : List (D × D)}, RpK K H vs ds → RpK K H' vs ds
  | _, _, .nil => .nil
  | _, _, .cons h r => .cons (Rp.mono e h) (RpK.mono e r)
theorem RpF.mono (e : Same H H') : ∀ {vs : List (Str × V)} {ds : List (D × D)}, RpF K H vs ds → RpF K H' vs ds
  | _, _, .nil => .nil
  | _, _, .cons h r => .cons (Rp.mono e h) (RpF.mono e r)
end
theorem RpA.length : ∀ {vs : List V} {ds : List D}, RpA K H vs ds → vs.length = ds.length
  | _, _, .nil => rfl
  | _, _, .cons _ r => by rw [List.length_cons, List.length_cons, r.length]
theorem RpA.get : ∀ {vs : List V} {ds : List D} {i : Nat} {d : D}, RpA K H vs ds → ds[i]? = some d → ∃ v, vs[i]? = some v ∧ Rp K H v d
  | _, _, _, _, .nil, e => by simp at e
  | _, _, 0, _, .cons h _, e => by simp at e; subst e; exact ⟨_, rfl, h⟩
  | _, _, i + 1, d, .cons _ r, e => by
    obtain ⟨v, h1, h2⟩ := RpA.get (i := i) (d := d) r (by simpa using e)
    exact ⟨v, by simpa using h1, h2⟩
theorem RpA.getV : ∀ {vs : List V} {ds : List D} {i : Nat} {v : V}, RpA K H vs ds → vs[i]? = some v → ∃ d, ds[i]? = some d ∧ Rp K H v d
  | _, _, _, _, .nil, e => by simp at e
  | _, _, 0, _, .cons h _, e => by simp at e; subst e; exact ⟨_, rfl, h⟩
  | _, _, i + 1, v, .cons _ r, e => by
    obtain ⟨d, h1, h2⟩ := RpA.getV (i := i) (v := v) r (by simpa using e)
    exact ⟨d, by simpa using h1, h2⟩
theorem RpA.append : ∀ {vs ws : List V} {ds es : List D}, RpA K H vs ds → RpA K H ws es → RpA K H (vs ++ ws) (ds ++ es)
  | _, _, _, _, .nil, s => s
  | _, _, _, _, .cons h r, s => .cons h (r.append s)
theorem RpA.take : ∀ {vs : List V} {ds : List D} (n : Nat), RpA K H vs ds → RpA K H (vs.take n) (ds.take n)
  | _, _, 0, _ => .nil
  | _, _, _ + 1, .nil => .nil
  | _, _, n + 1, .cons h r => .cons h (r.take n)
theorem RpA.drop : ∀ {vs : List V} {ds : List D} (n : Nat), RpA K H vs ds → RpA K H (vs.drop n) (ds.drop n)
  | _, _, 0, r => r
  | _, _, _ + 1, .nil => .nil
  | _, _, n + 1, .cons _ r => r.drop n
theorem RpA.set {v : V} {d : D} (h : Rp K H v d) : ∀ {vs : List V} {ds : List D} (i : Nat), RpA K H vs ds → RpA K H (vs.set i v) (ds.set i d)
  | _, _, _, .nil => .nil
  | _, _, 0, .cons _ r => .cons h r
  | _, _, i + 1, .cons q r => .cons q (r.set h i)
theorem RpA.reverse : ∀ {vs : List V} {ds : List D}, RpA K H vs ds → RpA K H vs.reverse ds.reverse
  | _, _, .nil => .nil
  | _, _, .cons h r => by
    rw [List.reverse_cons, List.reverse_cons]
    exact r.reverse.append (.cons h .nil)
theorem RpA.dropLast {vs : List V} {ds : List D} (r : RpA K H vs ds) : RpA K H vs.dropLast ds.dropLast := by
  rw [List.dropLast_eq_take, List.dropLast_eq_take, r.length]
  exact r.take _
theorem RpA.eraseIdx : ∀ {vs : List V} {ds : List D} (i : Nat), RpA K H vs ds → RpA K H (vs.eraseIdx i) (ds.eraseIdx i)
  | _, _, _, .nil => .nil
  | _, _, 0, .cons _ r => r
  | _, _, i + 1, .cons q r => .cons q (r.eraseIdx i)
theorem RpA.ints : ∀ (ns : List Int), RpA K H (ns.map V.int) (ns.map .int)
  | [] => .nil
  | n :: r => .cons (.int n) (RpA.ints r)
theorem RpA.ints_inv : ∀ {vs : List V} {ns : List Int}, RpA K H vs (ns.map .int) → vs = ns.map V.int
  | [], [], _ => rfl
  | v :: vs, n :: r, h => by
    cases h with
    | cons h1 h2 =>
      cases h1
      rw [List.map_cons, RpA.ints_inv h2]
  | [], _ :: _, h => by cases h
  | _ :: _, [], h => by cases h
end

def wtD (ds : List D) : D := .dict ((.bool false, .str "tuple") :: ds.map fun d => (.str "tuple", d))
theorem RpF.wt {K : PySem.W.Frag} {H : Hp} {x : Str} : ∀ {vs : List V} {ds : List D}, RpA K H vs ds → RpF K H (vs.map fun v => (x, v)) (ds.map fun d => (.str x, d))
  | _, _, .nil => .nil
  | _, _, .cons h r => .cons h (RpF.wt r)
theorem RpF.wt_inv {K : PySem.W.Frag} {H : Hp} {x : Str} : ∀ {vs : List V} {kvs : List (D × D)}, RpF K H (vs.map fun v => (x, v)) kvs → RpA K H vs (kvs.map Prod.snd)
  | [], _, h => by cases h; exact .nil
  | v :: vs, _, h => by
    cases h with
    | cons q r => exact .cons q (RpF.wt_inv r)
theorem Rp.wt {K : PySem.W.Frag} {H : Hp} {a : Addr} {o : Obj} {its : Array Value} {n : Nat} {vs : List V} {ds : List D} (h1 : K.lookup a = some o) (h2 : o.cls = .type "tuple") (h3 : o.data = .seq its n) (h4 : its.size ≤ sizeLine) (h5 : Vals vs its.toList) (h : RpA K H vs ds) : Rp K H (.ref a) (wtD ds) :=
  .ob (.wt h1 h2 h3 h4 h5) (RpF.wt h)
theorem wt_inv {K : PySem.W.Frag} {R H : Hp} {v : V} {y : Str} {kvs : List (D × D)} (h : Rp K R v (.dict ((.bool false, .str y) :: kvs))) : ∃ a xs, v = .ref a ∧ (∀ H', SqT K H' a xs) ∧ RpA K R xs (kvs.map Prod.snd) := by
  cases h with
  | dT h1 h2 => cases h2
  | ob h1 h2 =>
    cases h1 with
    | wt k1 k2 k3 k4 k5 => exact ⟨_, _, rfl, fun H' => .inr ⟨_, _, _, k1, k2, k3, k4, k5⟩, RpF.wt_inv h2⟩
mutual
def flat : D → Bool
  | .list _ => false
  | .tuple xs => flatA xs
  | .dict _ => false
  | _ => true
def flatA : List D → Bool
  | [] => true
  | x :: r => flat x && flatA r
end
section
variable {K : PySem.W.Frag} {H H' : Hp}
mutual
theorem Rp.dp : ∀ {v : V} {d : D}, Rp K H v d → d.canLay0 = true → Dp K H v d
  | _, _, .non, _ => .non
  | _, _, .bl b, _ => .bl b
  | _, _, .int i, _ => .int i
  | _, _, .str x, _ => .str x
  | _, _, .lst h r, q => .lst h.sq (RpA.dp r (by simpa [PyData.canLay0] using q))
  | _, _, .tup h r, q => .tup (SqT.of h) (RpA.dp r (by simpa [PyData.canLay0] using q))
  | _, _, .dT _ _, q => by simp [PyData.canLay0] at q
  | _, _, .ob _ _, q => by simp [PyData.canLay0] at q
theorem RpA.dp : ∀ {vs : List V} {ds : List D}, RpA K H vs ds → PyData.canLayAll0 ds = true → DpAll K H vs ds
  | _, _, .nil, _ => .nil
  | _, _, .cons h r, q => .cons (h.dp (by simp [PyData.canLayAll0] at q; exact q.1)) (RpA.dp r (by simp [PyData.canLayAll0] at q; exact q.2))
end
def Tups (H H' : Hp) : Prop := ∀ a xs, H a = some (.tup xs) → H' a = some (.tup xs)
mutual
theorem Rp.flat (e : Tups H H') : ∀ {v : V} {d : D}, Rp K H v d → flat d = true → Rp K H' v d
  | _, _, .non, _ => .non
  | _, _, .bl b, _ => .bl b
  | _, _, .int i, _ => .int i
  | _, _, .str x, _ => .str x
  | _, _, .lst _ _, q => by cases q
  | _, _, .tup h r, q => .tup (e _ _ h) (RpA.flat e r q)
  | _, _, .dT _ _, q => by cases q
  | _, _, .ob _ _, q => by cases q
theorem RpA.flat (e : Tups H H') : ∀ {vs : List V} {ds : List D}, RpA K H vs ds → flatA ds = true → RpA K H' vs ds
  | _, _, .nil, _ => .nil
  | _, _, .cons h r, q => .cons (h.flat e (Bool.and_eq_true_iff.mp q).1) (RpA.flat e r (Bool.and_eq_true_iff.mp q).2)
end
end

structure Ext (R H R' H' : Hp) : Prop where
  rr : Same R R'
  sub : Same R' H'
  hh : Same H H'
  new : ∀ a o, R' a = some o → R a = some o ∨ H a = none ∨ ∃ xs, o = .tup xs
theorem Ext.refl {R H : Hp} (s : Same R H) : Ext R H R H := ⟨Same.refl _, s, Same.refl _, fun _ _ h => .inl h⟩
theorem Ext.trans {R H R1 H1 R2 H2 : Hp} (a : Ext R H R1 H1) (b : Ext R1 H1 R2 H2) : Ext R H R2 H2 :=
  ⟨a.rr.trans b.rr, b.sub, a.hh.trans b.hh, fun c o q => by
    rcases b.new c o q with z | z | z
    · exact a.new c o z
    · exact .inr (.inl (a.hh.free z))
    · exact .inr (.inr z)⟩
theorem same_new {H : Hp} {p : Addr} {o : HO} (h : H p = none) : Same H (upd H p o) := fun b x e => by
  rw [upd_ne (ne_of_none e h)]; exact e
theorem Ext.alloc {R H : Hp} {p : Addr} {o : HO} (s : Same R H) (h : H p = none) : Ext R H (upd R p o) (upd H p o) := by
  refine ⟨same_new (s.free h), fun b x e => ?_, same_new h, fun b x e => ?_⟩
  · by_cases hb : b = p
    · subst hb; rw [upd_same] at e ⊢; exact e
    · rw [upd_ne hb] at e ⊢; exact s _ _ e
  · by_cases hb : b = p
    · subst hb; exact .inr (.inl h)
    · rw [upd_ne hb] at e; exact .inl e
theorem Ext.allocH {R H : Hp} {p : Addr} {o : HO} (s : Same R H) (h : H p = none) : Ext R H R (upd H p o) :=
  ⟨Same.refl _, s.trans (same_new h), same_new h, fun _ _ q => .inl q⟩
theorem Ext.region {R H R' H' : Hp} (e : Ext R H R' H') : Same R' H' := e.sub

structure Exn where
  cls : Str
  fld : Option (Str × D)
inductive Res (α : Type) where
  | ok (a : α)
  | exc (e : Exn)
  | stuck
def Res.bind {α β : Type} : Res α → (α → Res β) → Res β
  | .ok a, f => f a
  | .exc e, _ => .exc e
  | .stuck, _ => .stuck
def Res.map {α β : Type} (f : α → β) : Res α → Res β
  | .ok a => .ok (f a)
  | .exc e => .exc e
  | .stuck => .stuck
@[simp] theorem Res.bind_ok {α β : Type} (a : α) (f : α → Res β) : (Res.ok a).bind f = f a := rfl
@[simp] theorem Res.bind_exc {α β : Type} (e : Exn) (f : α → Res β) : (Res.exc e).bind f = .exc e := rfl
@[simp] theorem Res.bind_stuck {α β : Type} (f : α → Res β) : (Res.stuck : Res α).bind f = .stuck := rfl
@[simp] theorem Res.map_ok {α β : Type} (a : α) (f : α → β) : (Res.ok a).map f = .ok (f a) := rfl

def ExR (K : PySem.W.Frag) (mg : Str → Option Value) (x : Exn) (c : Value) (dx : Option Addr) (H' : Hp) : Prop :=
  mg x.cls = some c ∧ match x.fld with
    | none => dx = none
    | some (f, d) => ∃ a v, dx = some a ∧ H' a = some (.xd [(f, v)]) ∧ Rp K H' v d

structure ExL (K : PySem.W.Frag) (mg : Str → Option Value) (H : Hp) (x : Exn) (c : Value) (dx : Option Addr) (H' : Hp) : Prop where
  er : ExR K mg x c dx H'
  late : ∀ b, dx = some b → H b = none
theorem ExL.back {K : PySem.W.Frag} {mg : Str → Option Value} {H H1 H' : Hp} {x : Exn} {c : Value} {dx : Option Addr} (h : ExL K mg H1 x c dx H') (e : Same H H1) : ExL K mg H x c dx H' := ⟨h.er, fun b z => e.free (h.late b z)⟩
section
variable {α β : Type}
def Post (K : PySem.W.Frag) (mg : Str → Option Value) (Ex : XK) (rel : Hp → β → α → Prop) (R H : Hp) (Q : β → Hp → Prop) : Res α → Prop
  | .ok d => ∀ v R' H', Ext R H R' H' → rel R' v d → Q v H'
  | .exc x => ∀ c dx H', Same H H' → ExL K mg H x c dx H' → Ex c dx H'
  | .stuck => False
theorem Post.step {K : PySem.W.Frag} {mg : Str → Option Value} {Ex : XK} {rel : Hp → β → α → Prop} {R H R1 H1 : Hp} {Q : β → Hp → Prop} {r : Res α} (e : Ext R H R1 H1) (h : Post K mg Ex rel R H Q r) : Post K mg Ex rel R1 H1 Q r := by
  cases r with
  | ok d => exact fun v R' H' x q => h v R' H' (e.trans x) q
  | exc x => exact fun c dx H' s q => h c dx H' (e.hh.trans s) (q.back e.hh)
  | stuck => exact h
theorem Post.now {K : PySem.W.Frag} {mg : Str → Option Value} {Ex : XK} {rel : Hp → β → α → Prop} {R H : Hp} {Q : β → Hp → Prop} {d : α} {v : β} (s : Same R H) (q : rel R v d) (h : Post K mg Ex rel R H Q (.ok d)) : Q v H := h v R H (Ext.refl s) q
end

structure RS (K : PySem.W.Frag) (R : Hp) (σ : DS) (τ : L2.St) : Prop where
  get : ∀ (i : Nat) (d : D), σ[i]? = some (some d) → ∃ v, τ[i]? = some (some v) ∧ Rp K R v d
  len : σ.length = τ.length
theorem RS.mono {K : PySem.W.Frag} {R R' : Hp} {σ : DS} {τ : L2.St} (e : Same R R') (h : RS K R σ τ) : RS K R' σ τ := ⟨fun i d q => by
  obtain ⟨v, a, b⟩ := h.get i d q
  exact ⟨v, a, b.mono e⟩, h.len⟩
abbrev rV (K : PySem.W.Frag) : Hp → V → D → Prop := fun R v d => Rp K R v d
abbrev rA (K : PySem.W.Frag) : Hp → List V → List D → Prop := fun R v d => RpA K R v d
abbrev rB : Hp → Bool → Bool → Prop := fun _ b c => b = c

abbrev xat (E : WX) (τ : L2.St) : XK := fun c d H => E c d τ H
structure DE (X : Cx) (E : WX) (e : Expr) (f : DS → Res D) : Prop where
  run : ∃ t : TE, PE X e t ∧ ∀ (σ : DS) (τ : L2.St) (R H : Hp) (Q : VK), RS X.K R σ τ → Same R H → Post X.K X.mg (xat E τ) (rV X.K) R H Q (f σ) → t τ H Q
structure DA (X : Cx) (E : WX) (es : List Expr) (f : DS → Res (List D)) : Prop where
  run : ∃ t : TA, PA X es t ∧ ∀ (σ : DS) (τ : L2.St) (R H : Hp) (Q : List V → Hp → Prop), RS X.K R σ τ → Same R H → Post X.K X.mg (xat E τ) (rA X.K) R H Q (f σ) → t τ H Q
structure DT (X : Cx) (E : WX) (e : Expr) (f : DS → Res Bool) : Prop where
  run : ∃ t : TT, PT X e t ∧ ∀ (σ : DS) (τ : L2.St) (R H : Hp) (Q : Bool → Hp → Prop), RS X.K R σ τ → Same R H → Post X.K X.mg (xat E τ) rB R H Q (f σ) → t τ H Q
structure DW (X : Cx) (E : WX) (e : Expr) (f : DS → Res Bool) : Prop where
  run : ∃ t : TT, PW X e t ∧ ∀ (σ : DS) (τ : L2.St) (R H : Hp) (Q : Bool → Hp → Prop), RS X.K R σ τ → Same R H → Post X.K X.mg (xat E τ) rB R H Q (f σ) → t τ H Q

def eVar (i : Nat) : DS → Res D := fun σ => match σ[i]? with
  | some (some d) => .ok d
  | _ => .stuck
def eC (d : D) : DS → Res D := fun _ => .ok d
section
variable {X : Cx} {E : WX} {Ex : XK}
theorem de_var (i : Nat) {x : Str} {pos : Pos} (hN : X.N[i]? = some x := by rfl) (hv : Vis X.env.scope x := by first | exact Or.inl rfl | exact Or.inr (Or.inl rfl) | exact Or.inr (Or.inr rfl)) (hd : (x == ("__debug__" : Str)) = false := by decide)
    (hcd : (x == ("__classdict__" : Str)) = false := by decide) : DE X E (.Name x pos) (eVar i) := by
  refine ⟨_, pe_var hN hv hd hcd, fun σ τ R H Q hs s h => ?_⟩
  unfold eVar at h
  cases q : σ[i]? with
  | none => rw [q] at h; exact h.elim
  | some o =>
    cases o with
    | none => rw [q] at h; exact h.elim
    | some d =>
      rw [q] at h
      obtain ⟨v, e1, e2⟩ := hs.get i d q
      exact ⟨v, e1, Post.now s e2 h⟩
theorem de_int {i j pos} : DE X E (.Constant (.int i) j pos) (eC (.int i)) := ⟨_, pe_int, fun _ _ _ _ _ _ s h => Post.now s (Rp.int i) h⟩
theorem de_bl {b j pos} : DE X E (.Constant (.bool b) j pos) (eC (.bool b)) := ⟨_, pe_bl, fun _ _ _ _ _ _ s h => Post.now s (Rp.bl b) h⟩
theorem de_non {j pos} : DE X E (.Constant .none j pos) (eC .none) := ⟨_, pe_non, fun _ _ _ _ _ _ s h => Post.now s Rp.non h⟩
theorem de_str {x j pos} : DE X E (.Constant (.str x) j pos) (eC (.str x)) := ⟨_, pe_str, fun _ _ _ _ _ _ s h => Post.now s (Rp.str x) h⟩
theorem de_glob {x : Str} {v : V} {u : Value} {d : D} {pos : Pos} (hg : Gl X x) (hm : X.mg x = some u) (r : RelV v u) (hd : ∀ R, Rp X.K R v d) (hdb : (x == ("__debug__" : Str)) = false := by decide) : DE X E (.Name x pos) (eC d) :=
  ⟨_, pe_glob hg hm r hdb, fun _ _ _ _ _ _ s h => Post.now s (hd _) h⟩

theorem post_bind {α β γ δ : Type} {rel : Hp → β → α → Prop} {rel' : Hp → δ → γ → Prop} {R H : Hp} {Q : δ → Hp → Prop} {r : Res α} {g : α → Res γ} {T : β → Hp → Prop} (s : Same R H) (h : Post X.K X.mg Ex rel' R H Q (r.bind g))
    (k : ∀ d v R' H', Ext R H R' H' → rel R' v d → Post X.K X.mg Ex rel' R' H' Q (g d) → T v H') : Post X.K X.mg Ex rel R H T r := by
  cases r with
  | ok d => exact fun v R' H' e q => k d v R' H' e q (h.step e)
  | exc x => exact h
  | stuck => exact h

def e2 (o : D → D → Res D) (f g : DS → Res D) : DS → Res D := fun σ => (f σ).bind fun x => (g σ).bind fun y => o x y
def e1 (o : D → Res D) (f : DS → Res D) : DS → Res D := fun σ => (f σ).bind o
def OpD (X : Cx) (f : Value → Value → Sem Value) (o : D → D → Res D) : Prop :=
  ∃ r : R2, OpR X f r ∧ ∀ (v w : V) (x y : D) (R H : Hp) (Q : VK) (Ex : XK), Rp X.K R v x → Rp X.K R w y → Same R H → Post X.K X.mg Ex (rV X.K) R H Q (o x y) → r v w H Q
def UnD (X : Cx) (f : Value → Sem Value) (o : D → Res D) : Prop :=
  ∃ r : V → Hp → VK → Prop, UnR X f r ∧ ∀ (v : V) (x : D) (R H : Hp) (Q : VK) (Ex : XK), Rp X.K R v x → Same R H → Post X.K X.mg Ex (rV X.K) R H Q (o x) → r v H Q
variable {a b c : Expr} {f g k : DS → Res D} {pos : Pos}
theorem two_run {ta tb : TE} {σ : DS} {τ : L2.St} {R H : Hp} {Q : VK} {o : D → D → Res D} {r : V → V → Hp → VK → Prop} (ha : ∀ (σ : DS) (τ : L2.St) (R H : Hp) (Q : VK), RS X.K R σ τ → Same R H → Post X.K X.mg (xat E τ) (rV X.K) R H Q (f σ) → ta τ H Q)
    (hb : ∀ (σ : DS) (τ : L2.St) (R H : Hp) (Q : VK), RS X.K R σ τ → Same R H → Post X.K X.mg (xat E τ) (rV X.K) R H Q (g σ) → tb τ H Q)
    (ho : ∀ (v w : V) (x y : D) (R H : Hp) (Q : VK) (Ex : XK), Rp X.K R v x → Rp X.K R w y → Same R H → Post X.K X.mg Ex (rV X.K) R H Q (o x y) → r v w H Q)
    (hs : RS X.K R σ τ) (s : Same R H) (h : Post X.K X.mg (xat E τ) (rV X.K) R H Q (e2 o f g σ)) : ta τ H fun x H1 => tb τ H1 fun y H2 => r x y H2 Q := by
  refine ha σ τ R H _ hs s (post_bind s h fun x v R1 H1 e1 q1 h1 => ?_)
  refine hb σ τ R1 H1 _ (hs.mono e1.rr) e1.sub (post_bind e1.sub h1 fun y w R2 H2 e2 q2 h2 => ?_)
  exact ho v w x y R2 H2 Q _ (q1.mono e2.rr) q2 e2.sub h2
theorem de_op {op : Operator} {o : D → D → Res D} (ho : OpD X (binaryOp op) o) (ha : DE X E a f) (hb : DE X E b g) : DE X E (.BinOp a op b pos) (e2 o f g) := by
  obtain ⟨r, hr, q⟩ := ho
  obtain ⟨ta, pa, qa⟩ := ha
  obtain ⟨tb, pb, qb⟩ := hb
  exact ⟨_, pe_op hr pa pb, fun σ τ R H Q hs s h => two_run (r := r) qa qb q hs s h⟩
theorem de_un {op : UnaryOp} {o : D → Res D} (ho : UnD X (unaryOp op) o) (ha : DE X E a f) : DE X E (.UnaryOp op a pos) (e1 o f) := by
  obtain ⟨r, hr, q⟩ := ho
  obtain ⟨ta, pa, qa⟩ := ha
  exact ⟨_, pe_un hr pa, fun σ τ R H Q hs s h => qa σ τ R H _ hs s (post_bind s h fun x v R1 H1 e1 q1 h1 => q v x R1 H1 Q _ q1 e1.sub h1)⟩
theorem de_cmp {op : CmpOp} {o : D → D → Res D} (ho : OpD X (compareOp op) o) (ha : DE X E a f) (hb : DE X E b g) (hm : behindInMarks op b = false := by first | exact nobehind _ (by decide) (by decide) | rfl) : DE X E (.Compare a [op] [b] pos) (e2 o f g) := by
  obtain ⟨r, hr, q⟩ := ho
  obtain ⟨ta, pa, qa⟩ := ha
  obtain ⟨tb, pb, qb⟩ := hb
  exact ⟨_, pe_cmpR hr pa pb hm, fun σ τ R H Q hs s h => two_run (r := r) qa qb q hs s h⟩
def asB : D → Res Bool
  | .bool b => .ok b
  | _ => .stuck
def tB (f : DS → Res D) : DS → Res Bool := fun σ => (f σ).bind asB
theorem asB_run {v : V} {d : D} {R H : Hp} {Q : Bool → Hp → Prop} (q : Rp X.K R v d) (s : Same R H) (h : Post X.K X.mg Ex rB R H Q (asB d)) : ∃ c, v = .bl c ∧ Q c H := by
  cases q with
  | bl b => exact ⟨b, rfl, Post.now s (rel := rB) rfl h⟩
  | _ => exact h.elim
theorem dt_cmp {op : CmpOp} {o : D → D → Res D} (ho : OpD X (compareOp op) o) (ha : DE X E a f) (hb : DE X E b g) (hm : behindInMarks op b = false := by first | exact nobehind _ (by decide) (by decide) | rfl) : DT X E (.Compare a [op] [b] pos) (tB (e2 o f g)) := by
  obtain ⟨r, hr, q⟩ := ho
  obtain ⟨ta, pa, qa⟩ := ha
  obtain ⟨tb, pb, qb⟩ := hb
  refine ⟨_, pt_cmpR hr pa pb hm, fun σ τ R H Q hs s h => ?_⟩
  exact two_run (r := r) qa qb q hs s (post_bind s h fun x v R1 H1 e1 q1 h1 => asB_run q1 e1.sub h1)
theorem dt_val (ha : DE X E a f) (he : ∀ whole, isTrue a X.env whole = (do let v ← whole; standAt a.pos; holding [v] (truthy v)) := by intro _; rfl) : DT X E a (tB f) := by
  obtain ⟨ta, pa, qa⟩ := ha
  exact ⟨_, pt_val pa he, fun σ τ R H Q hs s h => qa σ τ R H _ hs s (post_bind s h fun x v R1 H1 e1 q1 h1 => asB_run q1 e1.sub h1)⟩

variable {p q r : DS → Res Bool} {rest : List Expr} {e : Expr}
def tAnd (p q : DS → Res Bool) : DS → Res Bool := fun σ => (p σ).bind fun b => if b then q σ else .ok false
def tOr (p q : DS → Res Bool) : DS → Res Bool := fun σ => (p σ).bind fun b => if b then .ok true else q σ
def tNot (p : DS → Res Bool) : DS → Res Bool := fun σ => (p σ).bind fun b => .ok (!b)
theorem DW.pt (h : DW X E e p) : DT X E e p := by
  obtain ⟨t, a, b⟩ := h
  exact ⟨t, a.pt, b⟩
theorem dw_and1 (ha : DT X E a p) : DW X E (.BoolOp .And [a] pos) p := by
  obtain ⟨t, h1, h2⟩ := ha
  exact ⟨t, pw_and1 h1, h2⟩
theorem dw_or1 (ha : DT X E a p) : DW X E (.BoolOp .Or [a] pos) p := by
  obtain ⟨t, h1, h2⟩ := ha
  exact ⟨t, pw_or1 h1, h2⟩
theorem dw_and (ha : DT X E a p) (hb : DW X E (.BoolOp .And (b :: rest) pos) q) : DW X E (.BoolOp .And (a :: b :: rest) pos) (tAnd p q) := by
  obtain ⟨t, h1, h2⟩ := ha
  obtain ⟨u, h3, h4⟩ := hb
  refine ⟨_, pw_and h1 h3, fun σ τ R H Q hs s h => h2 σ τ R H _ hs s (post_bind (rel := rB) s h fun x v R1 H1 e1 q1 k => ?_)⟩
  subst q1
  cases v with
  | true => exact h4 σ τ R1 H1 Q (hs.mono e1.rr) e1.sub k
  | false => exact Post.now e1.sub (rel := rB) rfl k
theorem dw_or (ha : DT X E a p) (hb : DW X E (.BoolOp .Or (b :: rest) pos) q) : DW X E (.BoolOp .Or (a :: b :: rest) pos) (tOr p q) := by
  obtain ⟨t, h1, h2⟩ := ha
  obtain ⟨u, h3, h4⟩ := hb
  refine ⟨_, pw_or h1 h3, fun σ τ R H Q hs s h => h2 σ τ R H _ hs s (post_bind (rel := rB) s h fun x v R1 H1 e1 q1 k => ?_)⟩
  subst q1
  cases v with
  | false => exact h4 σ τ R1 H1 Q (hs.mono e1.rr) e1.sub k
  | true => exact Post.now e1.sub (rel := rB) rfl k
theorem dt_not (ha : DT X E a p) : DT X E (.UnaryOp .Not a pos) (tNot p) := by
  obtain ⟨t, h1, h2⟩ := ha
  refine ⟨_, pt_not h1, fun σ τ R H Q hs s h => h2 σ τ R H _ hs s (post_bind (rel := rB) s h fun x v R1 H1 e1 q1 k => ?_)⟩
  subst q1
  exact Post.now e1.sub (rel := rB) rfl k
def eAnd (f g : DS → Res D) : DS → Res D := fun σ => (tB f σ).bind fun b => if b then g σ else .ok (.bool false)
def eOr (f g : DS → Res D) : DS → Res D := fun σ => (tB f σ).bind fun b => if b then .ok (.bool true) else g σ
def notD : D → Res D
  | .bool b => .ok (.bool (!b))
  | _ => .stuck
theorem de_one {op} (h : DE X E a f) : DE X E (.BoolOp op [a] pos) f := by
  obtain ⟨t, h1, h2⟩ := h
  exact ⟨t, pe_one h1, h2⟩
theorem bindB {r : Res D} {k : Bool → Res D} : (r.bind asB).bind k = r.bind fun d => (asB d).bind k := by cases r <;> rfl
theorem de_and (ha : DE X E a f) (hb : DE X E (.BoolOp .And (b :: rest) pos) g) : DE X E (.BoolOp .And (a :: b :: rest) pos) (eAnd f g) := by
  obtain ⟨t, h1, h2⟩ := ha
  obtain ⟨u, h3, h4⟩ := hb
  refine ⟨_, pe_and h1 h3, fun σ τ R H Q hs s h => h2 σ τ R H _ hs s ?_⟩
  have h' : Post X.K X.mg (xat E τ) (rV X.K) R H Q ((f σ).bind fun d => (asB d).bind fun b => if b then g σ else .ok (.bool false)) := by rw [← bindB]; exact h
  refine post_bind s h' fun x v R1 H1 e1 q1 k => ?_
  cases q1 with
  | bl c =>
    refine ⟨c, rfl, ?_⟩
    cases c with
    | true => exact h4 σ τ R1 H1 Q (hs.mono e1.rr) e1.sub k
    | false => exact Post.now e1.sub (Rp.bl false) k
  | _ => exact k.elim
theorem de_or (ha : DE X E a f) (hb : DE X E (.BoolOp .Or (b :: rest) pos) g) : DE X E (.BoolOp .Or (a :: b :: rest) pos) (eOr f g) := by
  obtain ⟨t, h1, h2⟩ := ha
  obtain ⟨u, h3, h4⟩ := hb
  refine ⟨_, pe_or h1 h3, fun σ τ R H Q hs s h => h2 σ τ R H _ hs s ?_⟩
  have h' : Post X.K X.mg (xat E τ) (rV X.K) R H Q ((f σ).bind fun d => (asB d).bind fun b => if b then .ok (.bool true) else g σ) := by rw [← bindB]; exact h
  refine post_bind s h' fun x v R1 H1 e1 q1 k => ?_
  cases q1 with
  | bl c =>
    refine ⟨c, rfl, ?_⟩
    cases c with
    | false => exact h4 σ τ R1 H1 Q (hs.mono e1.rr) e1.sub k
    | true => exact Post.now e1.sub (Rp.bl true) k
  | _ => exact k.elim
theorem de_not (ha : DE X E a f) : DE X E (.UnaryOp .Not a pos) (e1 notD f) := by
  obtain ⟨t, h1, h2⟩ := ha
  refine ⟨_, pe_not h1, fun σ τ R H Q hs s h => h2 σ τ R H _ hs s (post_bind s h fun x v R1 H1 e1 q1 k => ?_)⟩
  cases q1 with
  | bl c => exact ⟨c, rfl, Post.now e1.sub (Rp.bl _) k⟩
  | _ => exact k.elim
def eIf (p : DS → Res Bool) (f g : DS → Res D) : DS → Res D := fun σ => (p σ).bind fun b => if b then f σ else g σ
theorem de_ifExp (hc : DT X E c p) (ha : DE X E a f) (hb : DE X E b g) : DE X E (.IfExp c a b pos) (eIf p f g) := by
  obtain ⟨t, h1, h2⟩ := hc
  obtain ⟨ta, a1, a2⟩ := ha
  obtain ⟨tb, b1, b2⟩ := hb
  refine ⟨_, pe_ifExp h1 a1 b1, fun σ τ R H Q hs s h => h2 σ τ R H _ hs s (post_bind (rel := rB) s h fun x v R1 H1 e1 q1 k => ?_)⟩
  subst q1
  cases v with
  | true => exact a2 σ τ R1 H1 Q (hs.mono e1.rr) e1.sub k
  | false => exact b2 σ τ R1 H1 Q (hs.mono e1.rr) e1.sub k

def aNil : DS → Res (List D) := fun _ => .ok []
def aCons (f : DS → Res D) (g : DS → Res (List D)) : DS → Res (List D) := fun σ => (f σ).bind fun x => (g σ).bind fun xs => .ok (x :: xs)
variable {es : List Expr} {ga : DS → Res (List D)}
theorem da_nil : DA X E [] aNil := ⟨_, pa_nil, fun _ _ _ _ _ _ s h => Post.now s RpA.nil h⟩
theorem da_cons (ha : DE X E e f) (hr : DA X E es ga) (hs : starEach (e :: es) X.env = (false, eval e X.env) :: starEach es X.env := by rfl) : DA X E (e :: es) (aCons f ga) := by
  obtain ⟨t, h1, h2⟩ := ha
  obtain ⟨u, h3, h4⟩ := hr
  refine ⟨_, pa_cons h1 h3 hs, fun σ τ R H Q hs s h => h2 σ τ R H _ hs s (post_bind s h fun x v R1 H1 e1 q1 k => ?_)⟩
  refine h4 σ τ R1 H1 _ (hs.mono e1.rr) e1.sub (post_bind e1.sub k fun xs vs R2 H2 e2 q2 k2 => ?_)
  exact Post.now e2.sub (RpA.cons (q1.mono e2.rr) q2) k2
def tupD (xs : List D) : Res D := if xs.length ≤ sizeLine then .ok (.tuple xs) else .stuck
def lstD (xs : List D) : Res D := if xs.length ≤ sizeLine then .ok (.list xs) else .stuck
def eTup (g : DS → Res (List D)) : DS → Res D := fun σ => (g σ).bind tupD
def eLst (g : DS → Res (List D)) : DS → Res D := fun σ => (g σ).bind lstD
theorem new_tup {xs : List V} {ds : List D} {R H : Hp} {Q : VK} {p : Addr} (q : RpA X.K R xs ds) (s : Same R H) (hp : H p = none) (h : Post X.K X.mg Ex (rV X.K) R H Q (.ok (.tuple ds))) : Q (.ref p) (upd H p (.tup xs)) :=
  h _ _ _ (Ext.alloc s hp) (Rp.tup upd_same (q.mono (same_new (s.free hp))))
theorem new_lst {xs : List V} {ds : List D} {R H : Hp} {Q : VK} {p : Addr} (q : RpA X.K R xs ds) (s : Same R H) (hp : H p = none) (h : Post X.K X.mg Ex (rV X.K) R H Q (.ok (.list ds))) : Q (.ref p) (upd H p (.lst xs)) :=
  h _ _ _ (Ext.alloc s hp) (Rp.lst (.inl (.inl upd_same)) (q.mono (same_new (s.free hp))))
theorem de_tup {x1} (h : DA X E es ga) : DE X E (.Tuple es x1 pos) (eTup ga) := by
  obtain ⟨t, h1, h2⟩ := h
  refine ⟨_, pe_tup h1, fun σ τ R H Q hs s h => h2 σ τ R H _ hs s (post_bind s h fun xs vs R1 H1 e1 q1 k => ?_)⟩
  unfold tupD at k
  by_cases hl : xs.length ≤ sizeLine
  · rw [if_pos hl] at k
    exact ⟨by rw [q1.length]; exact hl, fun p hp => new_tup q1 e1.sub hp k⟩
  · rw [if_neg hl] at k; exact k.elim
theorem de_lst (h : DA X E es ga) : DE X E (.List es pos) (eLst ga) := by
  obtain ⟨t, h1, h2⟩ := h
  refine ⟨_, pe_lst h1, fun σ τ R H Q hs s h => h2 σ τ R H _ hs s (post_bind s h fun xs vs R1 H1 e1 q1 k => ?_)⟩
  unfold lstD at k
  by_cases hl : xs.length ≤ sizeLine
  · rw [if_pos hl] at k
    exact ⟨by rw [q1.length]; exact hl, fun p hp => new_lst q1 e1.sub hp k⟩
  · rw [if_neg hl] at k; exact k.elim
end
end E3

namespace E3
open PySem PySem.Spec PyProof.Rows L2

inductive Slot where
  | sh (d : D)
  | ow (d : D)
abbrev SS := List (Option Slot)
def Slot.dat : Slot → D
  | .sh d => d
  | .ow d => d
def Slot.shd : Slot → Option D
  | .sh d => some d
  | .ow _ => none
def view (σ : SS) : DS := σ.map fun o => o.map Slot.dat
def mask (σ : SS) : DS := σ.map fun o => o.bind Slot.shd

def Own (K : PySem.W.Frag) (R H : Hp) (a : Addr) : D → Prop
  | .list ds => ∃ vs, H a = some (.lst vs) ∧ RpA K R vs ds
  | .dict kvs => ∃ ks, H a = some (.dT ks) ∧ RpK K R ks kvs
  | _ => False
theorem Own.mono {K : PySem.W.Frag} {R H R' H' : Hp} {a : Addr} {d : D} (h : Own K R H a d) (e1 : Same R R') (e2 : Same H H') : Own K R' H' a d := by
  cases d with
  | list ds =>
    obtain ⟨vs, q, r⟩ := h
    exact ⟨vs, e2 _ _ q, r.mono e1⟩
  | dict kvs =>
    obtain ⟨vs, q, r⟩ := h
    exact ⟨vs, e2 _ _ q, r.mono e1⟩
  | _ => exact h.elim
theorem Own.some {K : PySem.W.Frag} {R H : Hp} {a : Addr} {d : D} (h : Own K R H a d) : ∃ o, H a = some o ∧ (∀ xs, o ≠ .tup xs) ∧ (∀ b u, o ≠ .frz b u) := by
  cases d with
  | list ds =>
    obtain ⟨vs, q, r⟩ := h
    exact ⟨_, q, fun _ z => (by cases z), fun _ _ z => (by cases z)⟩
  | dict kvs =>
    obtain ⟨vs, q, r⟩ := h
    exact ⟨_, q, fun _ z => (by cases z), fun _ _ z => (by cases z)⟩
  | _ => exact h.elim

structure RO (K : PySem.W.Frag) (R0 H0 R H : Hp) (σ : SS) (τ : L2.St) : Prop where
  ext : Ext R0 H0 R H
  sh : ∀ (i : Nat) (d : D), σ[i]? = some (some (.sh d)) → ∃ v, τ[i]? = some (some v) ∧ Rp K R v d
  ow : ∀ (i : Nat) (d : D), σ[i]? = some (some (.ow d)) → ∃ a, τ[i]? = some (some (.ref a)) ∧ R a = none ∧ H0 a = none ∧ Own K R H a d
  ne : ∀ (i j : Nat) (d e : D) (a : Addr), σ[i]? = some (some (.ow d)) → σ[j]? = some (some (.ow e)) → τ[i]? = some (some (.ref a)) → τ[j]? = some (some (.ref a)) → i = j
  len : σ.length = τ.length

theorem get_map {α β : Type} {l : List (Option α)} {f : Option α → Option β} (hf : f none = none) {i : Nat} {b : β} (h : (l.map f)[i]? = some (some b)) : ∃ a, l[i]? = some (some a) ∧ f (some a) = some b := by
  rw [List.getElem?_map] at h
  cases q : l[i]? with
  | none => rw [q] at h; cases h
  | some o =>
    rw [q] at h
    cases o with
    | none => rw [Option.map_some, hf] at h; cases h
    | some a => exact ⟨a, rfl, Option.some.inj h⟩

section
variable {K : PySem.W.Frag} {R0 H0 R H R' H' : Hp} {σ : SS} {τ : L2.St}
theorem RO.mask (I : RO K R0 H0 R H σ τ) : RS K R (mask σ) τ := ⟨fun i d h => by
  obtain ⟨a, h1, h2⟩ := get_map (f := fun o : Option Slot => o.bind Slot.shd) rfl h
  cases a with
  | sh e =>
    have : e = d := Option.some.inj h2
    subst this
    exact I.sh i e h1
  | ow e => exact (by cases h2), by show (σ.map _).length = _; rw [List.length_map]; exact I.len⟩
def owned (σ : SS) (τ : L2.St) (a : Addr) : Prop := ∃ (i : Nat) (d : D), σ[i]? = some (some (.ow d)) ∧ τ[i]? = some (some (.ref a))
open Classical in
noncomputable def full (σ : SS) (τ : L2.St) (R H : Hp) : Hp := fun a => if owned σ τ a then H a else R a
open Classical in
noncomputable def hide (σ : SS) (τ : L2.St) (R : Hp) : Hp := fun a => if owned σ τ a then none else R a
theorem full_o {a : Addr} (h : owned σ τ a) : full σ τ R H a = H a := by unfold full; rw [if_pos h]
theorem full_n {a : Addr} (h : ¬ owned σ τ a) : full σ τ R H a = R a := by unfold full; rw [if_neg h]
theorem hide_o {a : Addr} (h : owned σ τ a) : hide σ τ R a = none := by unfold hide; rw [if_pos h]
theorem hide_n {a : Addr} (h : ¬ owned σ τ a) : hide σ τ R a = R a := by unfold hide; rw [if_neg h]
theorem RO.ownd (I : RO K R0 H0 R H σ τ) {a : Addr} (h : owned σ τ a) : R a = none ∧ H0 a = none ∧ ∃ d, Own K R H a d := by
  obtain ⟨i, d, h1, h2⟩ := h
  obtain ⟨b, h3, h4, h5, h6⟩ := I.ow i d h1
  rw [h2] at h3
  cases h3
  exact ⟨h4, h5, d, h6⟩
theorem RO.rfull (I : RO K R0 H0 R H σ τ) : Same R (full σ τ R H) := fun a o e => by
  have n : ¬ owned σ τ a := fun z => by rw [(I.ownd z).1] at e; cases e
  rw [full_n n]; exact e
theorem RO.fullH (I : RO K R0 H0 R H σ τ) : Same (full σ τ R H) H := fun a o e => by
  by_cases n : owned σ τ a
  · rw [full_o n] at e; exact e
  · rw [full_n n] at e; exact I.ext.sub _ _ e
theorem RO.extF (I : RO K R0 H0 R H σ τ) : Ext R0 H0 (full σ τ R H) H := ⟨I.ext.rr.trans I.rfull, I.fullH, I.ext.hh, fun a o e => by
  by_cases n : owned σ τ a
  · exact .inr (.inl (I.ownd n).2.1)
  · rw [full_n n] at e; exact I.ext.new a o e⟩
theorem RO.viewed (I : RO K R0 H0 R H σ τ) : RS K (full σ τ R H) (view σ) τ := ⟨fun i d h => by
  obtain ⟨a, h1, h2⟩ := get_map (f := fun o : Option Slot => o.map Slot.dat) rfl h
  cases a with
  | sh e =>
    have : e = d := Option.some.inj h2
    subst this
    obtain ⟨v, q1, q2⟩ := I.sh i e h1
    exact ⟨v, q1, q2.mono I.rfull⟩
  | ow e =>
    have : e = d := Option.some.inj h2
    subst this
    obtain ⟨b, q1, q2, q3, q4⟩ := I.ow i e h1
    have ob : owned σ τ b := ⟨i, e, h1, q1⟩
    refine ⟨_, q1, ?_⟩
    cases e with
    | list ds =>
      obtain ⟨vs, z, r⟩ := q4
      exact .lst (.inl (.inl (by rw [full_o ob]; exact z))) (r.mono I.rfull)
    | dict kvs =>
      obtain ⟨vs, z, r⟩ := q4
      exact .dT (.inl (by rw [full_o ob]; exact z)) (r.mono I.rfull)
    | _ => exact q4.elim, by show (σ.map _).length = _; rw [List.length_map]; exact I.len⟩
theorem RO.step (I : RO K R0 H0 R H σ τ) (e : Ext R H R' H') : RO K R0 H0 R' H' σ τ where
  ext := I.ext.trans e
  sh := fun i d h => by
    obtain ⟨v, a, b⟩ := I.sh i d h
    exact ⟨v, a, b.mono e.rr⟩
  ow := fun i d h => by
    obtain ⟨a, h1, h2, h3, h4⟩ := I.ow i d h
    refine ⟨a, h1, ?_, h3, h4.mono e.rr e.hh⟩
    cases q : R' a with
    | none => rfl
    | some o =>
      rcases e.new a o q with z | z | ⟨xs, z⟩
      · rw [h2] at z; cases z
      · obtain ⟨o', z', _⟩ := h4.some
        rw [z] at z'; cases z'
      · obtain ⟨o', z', nt, _⟩ := h4.some
        have w1 := e.hh _ _ z'
        rw [e.sub _ _ q] at w1
        cases w1
        exact absurd z (nt xs)
  ne := I.ne
  len := I.len
theorem RO.stepF (I : RO K R0 H0 R H σ τ) (e : Ext (full σ τ R H) H R' H') : RO K R0 H0 (hide σ τ R') H' σ τ ∧ Tups R' (hide σ τ R') := by
  have x : Ext R H (hide σ τ R') H' := by
    refine ⟨fun a o q => ?_, fun a o q => ?_, e.hh, fun a o q => ?_⟩
    · have n : ¬ owned σ τ a := fun z => by rw [(I.ownd z).1] at q; cases q
      rw [hide_n n]
      exact e.rr _ _ (by rw [full_n n]; exact q)
    · by_cases n : owned σ τ a
      · rw [hide_o n] at q; cases q
      · rw [hide_n n] at q; exact e.sub _ _ q
    · by_cases n : owned σ τ a
      · rw [hide_o n] at q; cases q
      · rw [hide_n n] at q
        have := e.new a o q
        rw [full_n n] at this
        exact this
  refine ⟨I.step x, fun a xs q => ?_⟩
  have key : ∀ o, R' a = some o → ((∀ ys, o ≠ .tup ys) ∧ (∀ b u, o ≠ .frz b u)) ∨ hide σ τ R' a = some o := fun o z => by
    by_cases n : owned σ τ a
    · obtain ⟨d, q4⟩ := (I.ownd n).2.2
      obtain ⟨o', z1, z2, z3⟩ := q4.some
      have z4 : R' a = some o' := e.rr _ _ (by rw [full_o n]; exact z1)
      rw [z] at z4; cases z4
      exact .inl ⟨z2, z3⟩
    · exact .inr (by rw [hide_n n]; exact z)
  rcases key _ q with z | z
  · exact absurd rfl (z.1 xs)
  · exact z
theorem RO.same (I : RO K R0 H0 R H σ τ) (e : Same H H') : RO K R0 H0 R H' σ τ := I.step ⟨Same.refl _, I.ext.sub.trans e, e, fun _ _ q => .inl q⟩
theorem RO.put (I : RO K R0 H0 R H σ τ) {i : Nat} {v : V} {d : D} (q : Rp K R v d) : RO K R0 H0 R H (σ.set i (some (.sh d))) (τ.set i (some v)) where
  ext := I.ext
  sh := fun j e h => by
    by_cases hj : i = j
    · subst hj
      by_cases hl : i < σ.length
      · rw [List.getElem?_set_self hl] at h
        cases h
        exact ⟨v, List.getElem?_set_self (by rw [← I.len]; exact hl), q⟩
      · rw [List.set_eq_of_length_le (by omega)] at h
        rw [List.getElem?_eq_none (by omega)] at h; cases h
    · rw [List.getElem?_set_ne hj] at h ⊢
      exact I.sh j e h
  ow := fun j e h => by
    by_cases hj : i = j
    · subst hj
      by_cases hl : i < σ.length
      · rw [List.getElem?_set_self hl] at h; cases h
      · rw [List.set_eq_of_length_le (by omega)] at h
        rw [List.getElem?_eq_none (by omega)] at h; cases h
    · rw [List.getElem?_set_ne hj] at h ⊢
      exact I.ow j e h
  ne := fun j k d' e a h1 h2 h3 h4 => by
    have no : ∀ m (x : D), (σ.set i (some (.sh d)))[m]? = some (some (.ow x)) → i ≠ m := fun m x h hm => by
      subst hm
      by_cases hl : i < σ.length
      · rw [List.getElem?_set_self hl] at h; cases h
      · rw [List.set_eq_of_length_le (by omega)] at h
        rw [List.getElem?_eq_none (by omega)] at h; cases h
    have n1 := no _ _ h1
    have n2 := no _ _ h2
    rw [List.getElem?_set_ne n1] at h1 h3
    rw [List.getElem?_set_ne n2] at h2 h4
    exact I.ne j k d' e a h1 h2 h3 h4
  len := by rw [List.length_set, List.length_set]; exact I.len
theorem RO.putO (I : RO K R0 H0 R H σ τ) {i : Nat} {a : Addr} {d : D} (hR : R a = none) (h0 : H0 a = none) (ho : Own K R H a d) (hn : ¬ owned σ τ a) : RO K R0 H0 R H (σ.set i (some (.ow d))) (τ.set i (some (.ref a))) where
  ext := I.ext
  sh := fun j e h => by
    by_cases hj : i = j
    · subst hj
      by_cases hl : i < σ.length
      · rw [List.getElem?_set_self hl] at h; cases h
      · rw [List.set_eq_of_length_le (by omega)] at h
        rw [List.getElem?_eq_none (by omega)] at h; cases h
    · rw [List.getElem?_set_ne hj] at h ⊢
      exact I.sh j e h
  ow := fun j e h => by
    by_cases hj : i = j
    · subst hj
      by_cases hl : i < σ.length
      · rw [List.getElem?_set_self hl] at h
        cases h
        exact ⟨a, List.getElem?_set_self (by rw [← I.len]; exact hl), hR, h0, ho⟩
      · rw [List.set_eq_of_length_le (by omega)] at h
        rw [List.getElem?_eq_none (by omega)] at h; cases h
    · rw [List.getElem?_set_ne hj] at h ⊢
      exact I.ow j e h
  ne := fun j k d' e b h1 h2 h3 h4 => by
    have key : ∀ m n (x y : D), i = m → i ≠ n → (σ.set i (some (.ow d)))[n]? = some (some (.ow y)) → (τ.set i (some (.ref a)))[m]? = some (some (.ref b)) → (τ.set i (some (.ref a)))[n]? = some (some (.ref b)) → False := fun m n x y hm hn' q1 q2 q3 => by
      subst hm
      rw [List.getElem?_set_ne hn'] at q1 q3
      have hl : i < τ.length := by
        cases Nat.lt_or_ge i τ.length with
        | inl z => exact z
        | inr z =>
          rw [List.getElem?_eq_none (by rw [List.length_set]; exact z)] at q2; cases q2
      rw [List.getElem?_set_self hl] at q2
      cases q2
      exact hn ⟨n, y, q1, q3⟩
    by_cases hj : i = j
    · by_cases hk : i = k
      · exact hj.symm.trans hk
      · exact (key j k d' e hj hk h2 h3 h4).elim
    · by_cases hk : i = k
      · exact (key k j e d' hk hj h1 h4 h3).elim
      · rw [List.getElem?_set_ne hj] at h1 h3
        rw [List.getElem?_set_ne hk] at h2 h4
        exact I.ne j k d' e b h1 h2 h3 h4
  len := by rw [List.length_set, List.length_set]; exact I.len
theorem RO.mut (I : RO K R0 H0 R H σ τ) {i : Nat} {a : Addr} {c d : D} {o : HO} (h1 : σ[i]? = some (some (.ow c))) (h2 : τ[i]? = some (some (.ref a))) (ho : Own K R (upd H a o) a d) : RO K R0 H0 R (upd H a o) (σ.set i (some (.ow d))) τ := by
  obtain ⟨a', q1, q2, q3, q4⟩ := I.ow i c h1
  rw [h2] at q1; cases q1
  have other : ∀ b, b ≠ a → upd H a o b = H b := fun b hb => upd_ne hb
  refine ⟨⟨I.ext.rr, fun b x e => ?_, fun b x e => ?_, I.ext.new⟩, fun j e h => ?_, fun j e h => ?_, fun j k d' e b z1 z2 z3 z4 => ?_, by rw [List.length_set]; exact I.len⟩
  · rw [other b (fun z => by rw [z, q2] at e; cases e)]; exact I.ext.sub _ _ e
  · rw [other b (fun z => by rw [z, q3] at e; cases e)]; exact I.ext.hh _ _ e
  · by_cases hj : i = j
    · subst hj
      have hl : i < σ.length := (List.getElem?_eq_some_iff.mp h1).1
      rw [List.getElem?_set_self hl] at h; cases h
    · rw [List.getElem?_set_ne hj] at h
      exact I.sh j e h
  · by_cases hj : i = j
    · subst hj
      have hl : i < σ.length := (List.getElem?_eq_some_iff.mp h1).1
      rw [List.getElem?_set_self hl] at h; cases h
      exact ⟨a, h2, q2, q3, ho⟩
    · rw [List.getElem?_set_ne hj] at h
      obtain ⟨b, r1, r2, r3, r4⟩ := I.ow j e h
      refine ⟨b, r1, r2, r3, ?_⟩
      have nb : b ≠ a := fun z => by
        subst z
        exact hj (I.ne i j c e b h1 h h2 r1)
      cases e with
      | list ds =>
        obtain ⟨vs, y1, y2⟩ := r4
        exact ⟨vs, by rw [other b nb]; exact y1, y2⟩
      | dict kvs =>
        obtain ⟨vs, y1, y2⟩ := r4
        exact ⟨vs, by rw [other b nb]; exact y1, y2⟩
      | _ => exact r4.elim
  · have back : ∀ m (x : D), (σ.set i (some (Slot.ow d)))[m]? = some (some (Slot.ow x)) → ∃ y, σ[m]? = some (some (Slot.ow y)) := fun m x h => by
      by_cases hm : i = m
      · subst hm; exact ⟨c, h1⟩
      · rw [List.getElem?_set_ne hm] at h; exact ⟨x, h⟩
    obtain ⟨y1, w1⟩ := back _ _ z1
    obtain ⟨y2, w2⟩ := back _ _ z2
    exact I.ne j k y1 y2 b w1 w2 z3 z4
theorem RO.freeze (I : RO K R0 H0 R H σ τ) {i : Nat} {c : D} (h1 : σ[i]? = some (some (.ow c))) : ∃ R', RO K R0 H0 R' H (σ.set i (some (.sh c))) τ := by
  obtain ⟨a, q1, q2, q3, q4⟩ := I.ow i c h1
  obtain ⟨o, z1, z2, z3⟩ := q4.some
  have rr : Same R (upd R a o) := same_new q2
  have hl : i < σ.length := (List.getElem?_eq_some_iff.mp h1).1
  refine ⟨upd R a o, ⟨I.ext.rr.trans rr, fun b x e => ?_, I.ext.hh, fun b x e => ?_⟩, fun j e h => ?_, fun j e h => ?_, fun j k d' e b w1 w2 w3 w4 => ?_, by rw [List.length_set]; exact I.len⟩
  · by_cases hb : b = a
    · subst hb; rw [upd_same] at e; rw [z1]; exact e
    · rw [upd_ne hb] at e; exact I.ext.sub _ _ e
  · by_cases hb : b = a
    · subst hb; exact .inr (.inl q3)
    · rw [upd_ne hb] at e; exact I.ext.new _ _ e
  · by_cases hj : i = j
    · subst hj
      rw [List.getElem?_set_self hl] at h
      cases h
      refine ⟨_, q1, ?_⟩
      cases c with
      | list ds =>
        obtain ⟨vs, z, r⟩ := q4
        rw [z1] at z
        cases z
        exact .lst (.inl (.inl upd_same)) (r.mono rr)
      | dict kvs =>
        obtain ⟨vs, z, r⟩ := q4
        rw [z1] at z
        cases z
        exact .dT (.inl upd_same) (r.mono rr)
      | _ => exact q4.elim
    · rw [List.getElem?_set_ne hj] at h
      obtain ⟨v, y1, y2⟩ := I.sh j e h
      exact ⟨v, y1, y2.mono rr⟩
  · by_cases hj : i = j
    · subst hj
      rw [List.getElem?_set_self hl] at h; cases h
    · rw [List.getElem?_set_ne hj] at h
      obtain ⟨b, r1, r2, r3, r4⟩ := I.ow j e h
      have nb : b ≠ a := fun z => by
        subst z
        exact hj (I.ne i j c e b h1 h q1 r1)
      exact ⟨b, r1, by rw [upd_ne nb]; exact r2, r3, r4.mono rr (Same.refl _)⟩
  · have back : ∀ m (x : D), (σ.set i (some (Slot.sh c)))[m]? = some (some (Slot.ow x)) → σ[m]? = some (some (Slot.ow x)) := fun m x h => by
      by_cases hm : i = m
      · subst hm
        rw [List.getElem?_set_self hl] at h; cases h
      · rw [List.getElem?_set_ne hm] at h; exact h
    exact I.ne j k d' e b (back _ _ w1) (back _ _ w2) w3 w4
end

inductive Out where
  | nx | bk | ct
  | rt (d : D)
inductive SR where
  | ok (o : Out) (σ : SS)
  | exc (e : Exn) (σ : SS)
  | stuck
abbrev SF := SS → SR
def thenR {α : Type} (r : Res α) (σ : SS) (k : α → SR) : SR := match r with
  | .ok a => k a
  | .exc e => .exc e σ
  | .stuck => .stuck
@[simp] theorem thenR_ok {α : Type} (a : α) (σ : SS) (k : α → SR) : thenR (.ok a) σ k = k a := rfl
@[simp] theorem thenR_exc {α : Type} (e : Exn) (σ : SS) (k : α → SR) : thenR (.exc e : Res α) σ k = .exc e σ := rfl
@[simp] theorem thenR_stuck {α : Type} (σ : SS) (k : α → SR) : thenR (.stuck : Res α) σ k = .stuck := rfl

def SPost (X : Cx) (E : WX) (R0 H0 : Hp) (Dn : Ends) : SR → Prop
  | .ok .nx σ => ∀ R H τ, RO X.K R0 H0 R H σ τ → Dn.nx τ H
  | .ok .bk σ => ∀ R H τ, RO X.K R0 H0 R H σ τ → Dn.bk τ H
  | .ok .ct σ => ∀ R H τ, RO X.K R0 H0 R H σ τ → Dn.ct τ H
  | .ok (.rt d) _ => ∀ v R H, Ext R0 H0 R H → Rp X.K R v d → Dn.rt v H
  | .exc x σ => ∀ c dx R H τ, RO X.K R0 H0 R H σ τ → ExL X.K X.mg H0 x c dx H → E c dx τ H
  | .stuck => False
structure DS1 (X : Cx) (E : WX) (st : Stmt) (g : SF) : Prop where
  run : ∃ t : TS, PS X st t ∧ ∀ (R0 H0 : Hp) (σ : SS) (τ : L2.St) (R H : Hp) (Dn : Ends), RO X.K R0 H0 R H σ τ → SPost X E R0 H0 Dn (g σ) → t Dn τ H
structure DSs (X : Cx) (E : WX) (st : List Stmt) (g : SF) : Prop where
  run : ∃ t : TS, PSs X st t ∧ ∀ (R0 H0 : Hp) (σ : SS) (τ : L2.St) (R H : Hp) (Dn : Ends), RO X.K R0 H0 R H σ τ → SPost X E R0 H0 Dn (g σ) → t Dn τ H

section
variable {X : Cx} {E : WX} {st : Stmt} {sts : List Stmt} {e : Expr} {f : DS → Res D} {g h : SF} {pos : Pos} {R0 H0 R H : Hp} {σ : SS} {τ : L2.St} {Dn : Ends}
theorem post_mask {α β : Type} {rel : Hp → β → α → Prop} {r : Res α} {k : α → SR} {T : β → Hp → Prop} (I : RO X.K R0 H0 R H σ τ) (q : SPost X E R0 H0 Dn (thenR r σ k))
    (z : ∀ d v R' H', RO X.K R0 H0 R' H' σ τ → rel R' v d → SPost X E R0 H0 Dn (k d) → T v H') : Post X.K X.mg (xat E τ) rel R H T r := by
  cases r with
  | ok d => exact fun v R' H' x y => z d v R' H' (I.step x) y q
  | exc x => exact fun c dx H' s y => q c dx R H' τ (I.same s) (y.back I.ext.hh)
  | stuck => exact q
theorem post_view {r : Res D} {k : D → SR} {T : V → Hp → Prop} (I : RO X.K R0 H0 R H σ τ) (q : SPost X E R0 H0 Dn (thenR r σ fun d => if flat d then k d else .stuck))
    (z : ∀ d v R' H', RO X.K R0 H0 R' H' σ τ → Rp X.K R' v d → SPost X E R0 H0 Dn (k d) → T v H') : Post X.K X.mg (xat E τ) (rV X.K) (full σ τ R H) H T r := by
  cases r with
  | ok d =>
    refine fun v R' H' x y => ?_
    have q' : SPost X E R0 H0 Dn (if flat d then k d else .stuck) := q
    by_cases hf : flat d = true
    · rw [if_pos hf] at q'
      obtain ⟨J, tu⟩ := I.stepF x
      exact z d v _ H' J (Rp.flat tu y hf) q'
    · rw [if_neg hf] at q'; exact q'.elim
  | exc x => exact fun c dx H' s y => q c dx R H' τ (I.same s) (y.back I.ext.hh)
  | stuck => exact q
theorem post_viewA {r : Res (List D)} {k : List D → SR} {T : List V → Hp → Prop} (I : RO X.K R0 H0 R H σ τ) (q : SPost X E R0 H0 Dn (thenR r σ fun d => if flatA d then k d else .stuck))
    (z : ∀ d v R' H', RO X.K R0 H0 R' H' σ τ → RpA X.K R' v d → SPost X E R0 H0 Dn (k d) → T v H') : Post X.K X.mg (xat E τ) (rA X.K) (full σ τ R H) H T r := by
  cases r with
  | ok d =>
    refine fun v R' H' x y => ?_
    have q' : SPost X E R0 H0 Dn (if flatA d then k d else .stuck) := q
    by_cases hf : flatA d = true
    · rw [if_pos hf] at q'
      obtain ⟨J, tu⟩ := I.stepF x
      exact z d v _ H' J (RpA.flat tu y hf) q'
    · rw [if_neg hf] at q'; exact q'.elim
  | exc x => exact fun c dx H' s y => q c dx R H' τ (I.same s) (y.back I.ext.hh)
  | stuck => exact q
theorem post_test {r : Res Bool} {k : Bool → SR} {T : Bool → Hp → Prop} (I : RO X.K R0 H0 R H σ τ) (q : SPost X E R0 H0 Dn (thenR r σ k))
    (z : ∀ b R' H', RO X.K R0 H0 R' H' σ τ → SPost X E R0 H0 Dn (k b) → T b H') : Post X.K X.mg (xat E τ) rB (full σ τ R H) H T r := by
  cases r with
  | ok d =>
    refine fun v R' H' x y => ?_
    subst y
    exact z v _ H' (I.stepF x).1 q
  | exc x => exact fun c dx H' s y => q c dx R H' τ (I.same s) (y.back I.ext.hh)
  | stuck => exact q

def sNil : SF := fun σ => .ok .nx σ
def sSeq (g h : SF) : SF := fun σ => match g σ with
  | .ok .nx σ' => h σ'
  | r => r
theorem dss_nil : DSs X E [] sNil := ⟨_, pss_nil, fun _ _ _ _ _ _ _ I q => q _ _ _ I⟩
theorem dss_one (a : DS1 X E st g) : DSs X E [st] g := by
  obtain ⟨t, h1, h2⟩ := a
  exact ⟨t, pss_one h1, h2⟩
theorem dss_cons (a : DS1 X E st g) (b : DSs X E sts h) : DSs X E (st :: sts) (sSeq g h) := by
  obtain ⟨t, h1, h2⟩ := a
  obtain ⟨u, h3, h4⟩ := b
  refine ⟨_, pss_cons h1 h3, fun R0 H0 σ τ R H Dn I q => h2 R0 H0 σ τ R H _ I ?_⟩
  unfold sSeq at q
  cases z : g σ with
  | ok o σ' =>
    rw [z] at q
    cases o with
    | nx => exact fun R' H' τ' J => h4 R0 H0 σ' τ' R' H' Dn J q
    | bk => exact q
    | ct => exact q
    | rt d => exact q
  | exc x σ' => rw [z] at q; exact q
  | stuck => rw [z] at q; exact q
def sFreeze (i : Nat) (h : SF) : SF := fun σ => match σ[i]? with
  | some (some (.ow c)) => h (σ.set i (some (.sh c)))
  | _ => h σ
theorem dss_freeze (i : Nat) (b : DSs X E sts h) : DSs X E sts (sFreeze i h) := by
  obtain ⟨u, h3, h4⟩ := b
  refine ⟨u, h3, fun R0 H0 σ τ R H Dn I q => ?_⟩
  unfold sFreeze at q
  cases z : σ[i]? with
  | none => rw [z] at q; exact h4 R0 H0 σ τ R H Dn I q
  | some o =>
    cases o with
    | none => rw [z] at q; exact h4 R0 H0 σ τ R H Dn I q
    | some s =>
      cases s with
      | sh d => rw [z] at q; exact h4 R0 H0 σ τ R H Dn I q
      | ow c =>
        rw [z] at q
        obtain ⟨R', J⟩ := I.freeze z
        exact h4 R0 H0 _ τ R' H Dn J q
theorem ds_pass : DS1 X E (.Pass pos) sNil := ⟨_, ps_pass, fun _ _ _ _ _ _ _ I q => q _ _ _ I⟩
def sBreak : SF := fun σ => .ok .bk σ
def sCont : SF := fun σ => .ok .ct σ
theorem ds_break : DS1 X E (.Break pos) sBreak := ⟨_, ps_break, fun _ _ _ _ _ _ _ I q => q _ _ _ I⟩
theorem ds_cont : DS1 X E (.Continue pos) sCont := ⟨_, ps_continue, fun _ _ _ _ _ _ _ I q => q _ _ _ I⟩
def sStuck : SF := fun _ => .stuck
theorem ds_never : DS1 X E st sStuck := ⟨_, ps_never, fun _ _ _ _ _ _ _ _ q => q.elim⟩
def sRet (f : DS → Res D) : SF := fun σ => thenR (f (view σ)) σ fun d => .ok (.rt d) σ
theorem ds_ret (he : DE X E e f) : DS1 X E (.Return (some e) pos) (sRet f) := by
  obtain ⟨t, h1, h2⟩ := he
  refine ⟨_, ps_ret h1, fun R0 H0 σ τ R H Dn I q => h2 (view σ) τ (full σ τ R H) H _ I.viewed I.fullH ?_⟩
  unfold sRet at q
  cases z : f (view σ) with
  | ok d =>
    rw [z] at q
    exact fun v R' H' x y => q v R' H' (I.extF.trans x) y
  | exc x => rw [z] at q; exact fun c dx H' s y => q c dx R H' τ (I.same s) (y.back I.ext.hh)
  | stuck => rw [z] at q; exact q
def sRetN : SF := fun σ => .ok (.rt .none) σ
theorem ds_retN : DS1 X E (.Return none pos) sRetN := ⟨_, ps_retN, fun R0 H0 σ τ R H Dn I q => q .non R H I.ext Rp.non⟩
def sExpr (f : DS → Res D) : SF := fun σ => thenR (f (mask σ)) σ fun _ => .ok .nx σ
theorem ds_expr (he : DE X E e f) (hs : swapsWith e none pos.line X.env = pure false := by rfl) : DS1 X E (.Expr e pos) (sExpr f) := by
  obtain ⟨t, h1, h2⟩ := he
  exact ⟨_, ps_expr h1 hs, fun R0 H0 σ τ R H Dn I q => h2 (mask σ) τ R H _ I.mask I.ext.sub (post_mask I q fun d v R' H' J y z => z R' H' τ J)⟩
def sIf (p : DS → Res Bool) (g h : SF) : SF := fun σ => thenR (p (view σ)) σ fun b => if b then g σ else h σ
theorem ds_if {c : Expr} {a b : List Stmt} {p : DS → Res Bool} (hc : DT X E c p) (ha : DSs X E a g) (hb : DSs X E b h) : DS1 X E (.If c a b pos) (sIf p g h) := by
  obtain ⟨t, h1, h2⟩ := hc
  obtain ⟨ta, a1, a2⟩ := ha
  obtain ⟨tb, b1, b2⟩ := hb
  refine ⟨_, ps_if h1 a1 b1, fun R0 H0 σ τ R H Dn I q => h2 (view σ) τ (full σ τ R H) H _ I.viewed I.fullH (post_test I q fun d R' H' J y => ?_)⟩
  cases d with
  | true => exact a2 R0 H0 σ τ R' H' Dn J y
  | false => exact b2 R0 H0 σ τ R' H' Dn J y

theorem wipe_get (τ : L2.St) : ∀ (vs : List Nat) (j : Nat), (wipe τ vs)[j]? = if j ∈ vs ∧ j < τ.length then some none else τ[j]?
  | [], j => by simp [wipe]
  | v :: vs, j => by
    show ((wipe τ vs).set v none)[j]? = _
    by_cases hv : v = j
    · subst hv
      by_cases hl : v < τ.length
      · rw [List.getElem?_set_self (by rw [wipe_length]; exact hl), if_pos ⟨by simp, hl⟩]
      · rw [List.getElem?_eq_none (by rw [List.length_set, wipe_length]; omega), if_neg (fun z => hl z.2), List.getElem?_eq_none (by omega)]
    · rw [List.getElem?_set_ne hv, wipe_get τ vs j]
      by_cases hj : j ∈ vs ∧ j < τ.length
      · rw [if_pos hj, if_pos ⟨List.mem_cons_of_mem _ hj.1, hj.2⟩]
      · rw [if_neg hj, if_neg (fun z => hj ⟨(List.mem_cons.mp z.1).elim (fun e => absurd e.symm hv) id, z.2⟩)]
def Wp (ix : List Nat) (τ τ' : L2.St) : Prop := ∀ vs : List Nat, (∀ i ∈ ix, i ∈ vs) → wipe τ' vs = wipe τ vs
theorem Wp.refl (ix : List Nat) (τ : L2.St) : Wp ix τ τ := fun _ _ => rfl
theorem Wp.trans {ix jx : List Nat} {τ τ1 τ2 : L2.St} (a : Wp ix τ τ1) (b : Wp jx τ1 τ2) : Wp (ix ++ jx) τ τ2 := fun vs h => (b vs fun i hi => h i (List.mem_append_right _ hi)).trans (a vs fun i hi => h i (List.mem_append_left _ hi))
theorem Wp.set (i : Nat) (τ : L2.St) (x : Option V) : Wp [i] τ (τ.set i x) := fun vs h => by
  have hi : i ∈ vs := h i (by simp)
  apply List.ext_getElem?
  intro j
  rw [wipe_get, wipe_get, List.length_set]
  by_cases hj : j ∈ vs ∧ j < τ.length
  · rw [if_pos hj, if_pos hj]
  · rw [if_neg hj, if_neg hj]
    by_cases e : i = j
    · subst e
      have hl : ¬ i < τ.length := fun z => hj ⟨hi, z⟩
      rw [List.getElem?_eq_none (by rw [List.length_set]; omega), List.getElem?_eq_none (by omega)]
    · rw [List.getElem?_set_ne e]
abbrev GF := D → SS → Option SS
structure DG (X : Cx) (tg : Expr) (ix : List Nat) (p : GF) : Prop where
  run : ∃ t : TG, PG X tg t ∧ ∀ (R0 H0 : Hp) (d : D) (v : V) (σ σ' : SS) (τ : L2.St) (R H : Hp) (Q : L2.St → Hp → Prop), RO X.K R0 H0 R H σ τ → Rp X.K R v d → p d σ = some σ' → (∀ R' H' τ', Same R R' → Wp ix τ τ' → RO X.K R0 H0 R' H' σ' τ' → Q τ' H') → t v τ H Q
structure DGs (X : Cx) (tgs : List Expr) (ix : List Nat) (p : List D → SS → Option SS) : Prop where
  run : ∃ t : TGs, PGs X tgs t ∧ ∀ (R0 H0 : Hp) (d : List D) (v : List V) (σ σ' : SS) (τ : L2.St) (R H : Hp) (Q : L2.St → Hp → Prop), RO X.K R0 H0 R H σ τ → RpA X.K R v d → p d σ = some σ' → (∀ R' H' τ', Same R R' → Wp ix τ τ' → RO X.K R0 H0 R' H' σ' τ' → Q τ' H') → t v τ H Q
def gN (i : Nat) : GF := fun d σ => some (σ.set i (some (.sh d)))
theorem dg_name {i : Nat} {x : Str} (hN : X.N.Nodup) (hi : X.N[i]? = some x) (hx : Loc X.env.scope x) (hf : X.fn x = true ∨ X.env.scope.names.lookup x = some .local := by first | exact .inl rfl | exact .inr rfl | assumption) : DG X (.Name x pos) [i] (gN i) :=
  ⟨_, pg_name hN hi hx hf, fun R0 H0 d v σ σ' τ R H Q I r e q => by cases e; exact q R H _ (Same.refl _) (Wp.set i _ _) (I.put r)⟩
def gsNil : List D → SS → Option SS := fun ds σ => match ds with
  | [] => some σ
  | _ => none
def gsCons (p : GF) (ps : List D → SS → Option SS) : List D → SS → Option SS := fun ds σ => match ds with
  | d :: ds => (p d σ).bind (ps ds)
  | [] => none
theorem dgs_nil : DGs X [] [] gsNil := ⟨_, pgs_nil, fun R0 H0 d v σ σ' τ R H Q I r e q => by
  cases r with
  | nil => cases e; exact ⟨rfl, q _ _ _ (Same.refl _) (Wp.refl _ _) I⟩
  | cons _ _ => cases e⟩
theorem dgs_cons {tg : Expr} {tgs : List Expr} {p : GF} {ps : List D → SS → Option SS} {ix jx : List Nat} (a : DG X tg ix p) (b : DGs X tgs jx ps) (hs : (assignEach (tg :: tgs) X.env).map (·.2) = assign tg X.env :: (assignEach tgs X.env).map (·.2) := by rfl) : DGs X (tg :: tgs) (ix ++ jx) (gsCons p ps) := by
  obtain ⟨t, h1, h2⟩ := a
  obtain ⟨u, h3, h4⟩ := b
  refine ⟨_, pgs_cons h1 h3 hs, fun R0 H0 d v σ σ' τ R H Q I r e q => ?_⟩
  cases r with
  | nil => cases e
  | cons r1 r2 =>
    rename_i v vs d ds
    have e' : (p d σ).bind (ps ds) = some σ' := e
    cases z : p d σ with
    | none => rw [z] at e'; cases e'
    | some σ1 =>
      rw [z] at e'
      refine ⟨v, vs, rfl, ?_⟩
      exact h2 R0 H0 d v σ σ1 τ R H _ I r1 z fun R1 H1 τ1 s w J => h4 R0 H0 ds vs σ1 σ' τ1 R1 H1 Q J (r2.mono s) e' fun R2 H2 τ2 s2 w2 J2 => q R2 H2 τ2 (s.trans s2) (w.trans w2) J2
def gT (n : Nat) (ps : List D → SS → Option SS) : GF := fun d σ => match d with
  | .tuple ds => if ds.length = n then ps ds σ else none
  | _ => none
theorem dg_tup {tgs : List Expr} {k n : Nat} {ps : List D → SS → Option SS} {ix : List Nat} (hc : X.calm = true) (b : DGs X tgs ix ps) (hn : (assignEach tgs X.env).length = n := by rfl) (hst : (assignEach tgs X.env).findIdx? (·.1) = none := by rfl) : DG X (.Tuple tgs k pos) ix (gT n ps) := by
  obtain ⟨u, h3, h4⟩ := b
  refine ⟨_, pg_tup hc h3 hn hst, fun R0 H0 d v σ σ' τ R H Q I r e q => ?_⟩
  cases r with
  | tup hq ha =>
    rename_i a xs ds
    have e' : (if ds.length = n then ps ds σ else none) = some σ' := e
    by_cases hl : ds.length = n
    · rw [if_pos hl] at e'
      exact ⟨a, xs, rfl, SqT.of (I.ext.sub _ _ hq), by rw [ha.length]; exact hl, h4 R0 H0 ds xs σ σ' τ R H Q I ha e' q⟩
    · rw [if_neg hl] at e'; cases e'
  | _ => cases e

def optK (o : Option SS) : SR := match o with
  | some σ => .ok .nx σ
  | none => .stuck
def sAsg (p : GF) (f : DS → Res D) : SF := fun σ => thenR (f (mask σ)) σ fun d => optK (p d σ)
def sAsgV (p : GF) (f : DS → Res D) : SF := fun σ => thenR (f (view σ)) σ fun d => if flat d then optK (p d σ) else .stuck
theorem optK_run {p : Option SS} {R' H' : Hp} (I : RO X.K R0 H0 R H σ τ) (q : SPost X E R0 H0 Dn (optK p)) : ∃ σ', p = some σ' ∧ ∀ R H τ, RO X.K R0 H0 R H σ' τ → Dn.nx τ H := by
  cases p with
  | none => exact q.elim
  | some σ' => exact ⟨σ', rfl, q⟩
theorem ds_asg {tg : Expr} {p : GF} {ix : List Nat} (he : DE X E e f) (hg : DG X tg ix p) (hs : swapsWithSole [tg] e pos.line X.env = pure false := by rfl) (hw : swappedStores [tg] e X.env = pure none := by rfl)
    (h1 : (assignEach [tg] X.env).map (·.2) = [assign tg X.env] := by rfl) : DS1 X E (.Assign [tg] e pos) (sAsg p f) := by
  obtain ⟨t, e1, e2⟩ := he
  obtain ⟨u, g1, g2⟩ := hg
  refine ⟨_, ps_asg e1 g1 hs hw h1, fun R0 H0 σ τ R H Dn I q => e2 (mask σ) τ R H _ I.mask I.ext.sub (post_mask I q fun d v R' H' J y z => ?_)⟩
  obtain ⟨σ', z1, z2⟩ := optK_run (R' := R') (H' := H') J z
  exact g2 R0 H0 d v σ σ' τ R' H' _ J y z1 fun R2 H2 τ2 _ _ J2 => z2 R2 H2 τ2 J2
theorem ds_asgV {tg : Expr} {p : GF} {ix : List Nat} (he : DE X E e f) (hg : DG X tg ix p) (hs : swapsWithSole [tg] e pos.line X.env = pure false := by rfl) (hw : swappedStores [tg] e X.env = pure none := by rfl)
    (h1 : (assignEach [tg] X.env).map (·.2) = [assign tg X.env] := by rfl) : DS1 X E (.Assign [tg] e pos) (sAsgV p f) := by
  obtain ⟨t, e1, e2⟩ := he
  obtain ⟨u, g1, g2⟩ := hg
  refine ⟨_, ps_asg e1 g1 hs hw h1, fun R0 H0 σ τ R H Dn I q => e2 (view σ) τ (full σ τ R H) H _ I.viewed I.fullH (post_view I q fun d v R' H' J y z => ?_)⟩
  obtain ⟨σ', z1, z2⟩ := optK_run (R' := R') (H' := H') J z
  exact g2 R0 H0 d v σ σ' τ R' H' _ J y z1 fun R2 H2 τ2 _ _ J2 => z2 R2 H2 τ2 J2
def sSet (i : Nat) (f : DS → Res D) : SF := fun σ => thenR (f (mask σ)) σ fun d => .ok .nx (σ.set i (some (.sh d)))
def sSetV (i : Nat) (f : DS → Res D) : SF := fun σ => thenR (f (view σ)) σ fun d => if flat d then .ok .nx (σ.set i (some (.sh d))) else .stuck
variable {x : Str} {pos' : Pos} {i : Nat}
theorem ds_set (i : Nat) (hN : X.N.Nodup) (hi : X.N[i]? = some x) (hx : Loc X.env.scope x) (he : DE X E e f) (hs : swapsWith e (some (.Name x pos')) pos.line X.env = pure false := by rfl) (hf : X.fn x = true ∨ X.env.scope.names.lookup x = some .local := by first | exact .inl rfl | exact .inr rfl | assumption) :
    DS1 X E (.Assign [.Name x pos'] e pos) (sSet i f) := by
  obtain ⟨t, e1, e2⟩ := he
  exact ⟨_, ps_set hN hi hx e1 hs hf, fun R0 H0 σ τ R H Dn I q => e2 (mask σ) τ R H _ I.mask I.ext.sub (post_mask I q fun d v R' H' J y z => z _ _ _ (J.put y))⟩
theorem ds_setV (i : Nat) (hN : X.N.Nodup) (hi : X.N[i]? = some x) (hx : Loc X.env.scope x) (he : DE X E e f) (hs : swapsWith e (some (.Name x pos')) pos.line X.env = pure false := by rfl) (hf : X.fn x = true ∨ X.env.scope.names.lookup x = some .local := by first | exact .inl rfl | exact .inr rfl | assumption) :
    DS1 X E (.Assign [.Name x pos'] e pos) (sSetV i f) := by
  obtain ⟨t, e1, e2⟩ := he
  exact ⟨_, ps_set hN hi hx e1 hs hf, fun R0 H0 σ τ R H Dn I q => e2 (view σ) τ (full σ τ R H) H _ I.viewed I.fullH (post_view I q fun d v R' H' J y z => z _ _ _ (J.put y))⟩
def two (i j : Nat) (σ : SS) : List D → SR
  | [x, y] => .ok .nx ((σ.set i (some (.sh x))).set j (some (.sh y)))
  | _ => .stuck
def sPar (i j : Nat) (f : DS → Res (List D)) : SF := fun σ => thenR (f (mask σ)) σ (two i j σ)
theorem ds_par (i j : Nat) {x y : Str} {a b : Expr} {f : DS → Res (List D)} {px py pt : Pos} {kt k2 pt2} (hc : X.calm = true) (hN : X.N.Nodup) (hi : X.N[i]? = some x) (hj : X.N[j]? = some y) (hij : i ≠ j)
    (hx : X.env.scope.names.lookup x = some .local) (hy : X.env.scope.names.lookup y = some .local) (ha : DA X E [a, b] f)
    (hw : swappedStores [.Tuple [.Name x px, .Name y py] kt pt] (.Tuple [a, b] k2 pt2) X.env = pure (some [x, y]))
    (hs : swapsWithSole [.Tuple [.Name x px, .Name y py] kt pt] (.Tuple [a, b] k2 pt2) pos.line X.env = pure false := by rfl) :
    DS1 X E (.Assign [.Tuple [.Name x px, .Name y py] kt pt] (.Tuple [a, b] k2 pt2) pos) (sPar i j f) := by
  obtain ⟨t, e1, e2⟩ := ha
  refine ⟨_, ps_par hc hN hi hj hij hx hy e1 hw hs, fun R0 H0 σ τ R H Dn I q => e2 (mask σ) τ R H _ I.mask I.ext.sub (post_mask I q fun d v R' H' J y z => ?_)⟩
  match d, v, y, z with
  | [d1, d2], _, .cons r1 (.cons r2 .nil), z => exact ⟨_, _, rfl, z _ _ _ ((J.put r1).put r2)⟩
  | [], _, _, z => exact z.elim
  | [_], _, _, z => exact z.elim
  | _ :: _ :: _ :: _, _, _, z => exact z.elim
end
end E3

namespace E3
open PySem PySem.Spec PyProof.Rows L2

section
variable {X : Cx} {E : WX}
theorem OpR.or {f : Value → Value → Sem Value} {r s : R2} (h : OpR X f r) (k : OpR X f s) : OpR X f (fun x y H Q => r x y H Q ∨ s x y H Q) := fun pins s σ H x y v u Q I rx ry q => by
  rcases q with q | q
  · exact h pins s σ H x y v u Q I rx ry q
  · exact k pins s σ H x y v u Q I rx ry q
theorem CallR.or {f : Value} {r s : List V → Hp → VK → Prop} (h : CallR X f r) (k : CallR X f s) : CallR X f (fun x H Q => r x H Q ∨ s x H Q) := fun pins s σ H xs us Q I rx q => by
  rcases q with q | q
  · exact h pins s σ H xs us Q I rx q
  · exact k pins s σ H xs us Q I rx q
def rCatG (K : PySem.W.Frag) : R2 := fun x y H Q => ∃ l b xs zs, x = .ref l ∧ y = .ref b ∧ LsQ K H l xs ∧ LsQ K H b zs ∧ xs.length + zs.length ≤ sizeLine ∧ ∀ p, H p = none → Q (.ref p) (upd H p (.lst (xs ++ zs)))
theorem op_catG : OpR X (binaryOp .Add) (rCatG X.K) := fun pins s σ H x y v u Q I rx ry h => by
  obtain ⟨l, b, xs, zs, rfl, rfl, ha, hb, hz, q⟩ := h
  cases rx
  cases ry
  obtain ⟨z1, i1, n1, r1, e1⟩ := ha.at I
  obtain ⟨z2, i2, n2, r2, e2⟩ := hb.at I
  have l1 := r1.length
  have l2 := r2.length
  refine PySem.P.add_list e1 e2 ?_ (by rw [List.size_toArray, List.size_toArray]; omega)
  rw [show i1.toArray ++ i2.toArray = (i1 ++ i2).toArray by simp]
  exact ⟨.ref _, _, I.lnew (t' := s.toks) (r1.append r2) (by rw [List.length_append]; omega), rfl, q _ I.fresh⟩

def addD : D → D → Res D
  | .int i, .int j => .ok (.int (i + j))
  | .str i, .str j => if i.length + j.length ≤ sizeLine then .ok (.str (i ++ j)) else .stuck
  | .tuple xs, .tuple ys => if xs.length + ys.length ≤ sizeLine then .ok (.tuple (xs ++ ys)) else .stuck
  | .list xs, .list ys => if xs.length + ys.length ≤ sizeLine then .ok (.list (xs ++ ys)) else .stuck
  | _, _ => .stuck
theorem RpA.nil_iff {K : PySem.W.Frag} {R : Hp} {vs : List V} {ds : List D} (h : RpA K R vs ds) : vs = [] ↔ ds = [] := by
  cases h with
  | nil => exact ⟨fun _ => rfl, fun _ => rfl⟩
  | cons a b => exact ⟨fun z => (by cases z), fun z => (by cases z)⟩
theorem od_add : OpD X (binaryOp .Add) addD := by
  refine ⟨_, (op_add.or op_add_str).or (op_catA.or op_catG), fun v w x y R H Q Ex rx ry s h => ?_⟩
  cases rx with
  | int i => cases ry with
    | int j => exact .inl (.inl ⟨i, j, rfl, rfl, Post.now s (Rp.int _) h⟩)
    | _ => exact h.elim
  | str i => cases ry with
    | str j =>
      simp only [addD] at h
      by_cases hl : i.length + j.length ≤ sizeLine
      · rw [if_pos hl] at h; exact .inl (.inr ⟨i, j, rfl, rfl, hl, Post.now s (Rp.str _) h⟩)
      · rw [if_neg hl] at h; exact h.elim
    | _ => exact h.elim
  | tup h1 q1 => cases ry with
    | tup h2 q2 =>
      rename_i a xs ds b ys es
      simp only [addD] at h
      by_cases hl : ds.length + es.length ≤ sizeLine
      · rw [if_pos hl] at h
        refine .inr (.inl ⟨a, b, xs, ys, rfl, rfl, SqT.of (s _ _ h1), SqT.of (s _ _ h2), by rw [q1.length, q2.length]; exact hl, fun z => ?_, fun _ z => ?_, fun _ _ p hp => new_tup (q1.append q2) s hp h⟩)
        · have e1 := q1.nil_iff.mp z
          subst e1
          exact Post.now s (Rp.tup h2 q2) h
        · have e1 := q2.nil_iff.mp z
          subst e1
          rw [List.append_nil] at h
          exact Post.now s (Rp.tup h1 q1) h
      · rw [if_neg hl] at h; exact h.elim
    | _ => exact h.elim
  | lst h1 q1 => cases ry with
    | lst h2 q2 =>
      rename_i a xs ds b ys es
      simp only [addD] at h
      by_cases hl : ds.length + es.length ≤ sizeLine
      · rw [if_pos hl] at h
        exact .inr (.inr ⟨a, b, xs, ys, rfl, rfl, ls_same s h1, ls_same s h2, by rw [q1.length, q2.length]; exact hl, fun p hp => new_lst (q1.append q2) s hp h⟩)
      · rw [if_neg hl] at h; exact h.elim
    | _ => exact h.elim
  | _ => exact h.elim
def iop (c : Int → Int → Bool) (g : Int → Int → D) : D → D → Res D
  | .int i, .int j => if c i j then .ok (g i j) else .stuck
  | _, _ => .stuck
theorem od_iop {f : Value → Value → Sem Value} {C : Int → Int → Prop} {gv : Int → Int → V} {c : Int → Int → Bool} {g : Int → Int → D} (h : OpR X f (rI C gv)) (hc : ∀ i j, c i j = true → C i j) (hg : ∀ i j R, Rp X.K R (gv i j) (g i j)) : OpD X f (iop c g) := by
  refine ⟨_, h, fun v w x y R H Q Ex rx ry s h => ?_⟩
  cases rx with
  | int i => cases ry with
    | int j =>
      simp only [iop] at h
      by_cases hl : c i j = true
      · rw [if_pos hl] at h; exact ⟨i, j, rfl, rfl, hc i j hl, Post.now s (hg i j R) h⟩
      · rw [if_neg hl] at h; exact h.elim
    | _ => exact h.elim
  | _ => exact h.elim
theorem od_iop0 {f : Value → Value → Sem Value} {gv : Int → Int → V} {g : Int → Int → D} (h : OpR X f (rI0 gv)) (hg : ∀ i j R, Rp X.K R (gv i j) (g i j)) : OpD X f (iop (fun _ _ => true) g) := by
  refine ⟨_, h, fun v w x y R H Q Ex rx ry s h => ?_⟩
  cases rx with
  | int i => cases ry with
    | int j => exact ⟨i, j, rfl, rfl, Post.now s (hg i j R) h⟩
    | _ => exact h.elim
  | _ => exact h.elim
def subD : D → D → Res D := iop (fun _ _ => true) fun i j => .int (i - j)
def mulD : D → D → Res D := iop (fun i j => decide (i.natAbs.log2 + j.natAbs.log2 < 1000000)) fun i j => .int (i * j)
def fdivD : D → D → Res D := iop (fun _ j => decide (0 < j ∧ j.natAbs.log2 < 9000)) fun i j => .int (i / j)
def modD : D → D → Res D := iop (fun _ j => decide (0 < j)) fun i j => .int (i % j)
def powD : D → D → Res D := iop (fun i j => decide (0 ≤ j ∧ j ≤ 1000000 ∧ i.natAbs < 2 ^ 64)) fun i j => .int (i ^ j.toNat)
def shlD : D → D → Res D := iop (fun i j => decide (0 ≤ j ∧ j ≤ 1000000 ∧ i.natAbs < 2 ^ 64)) fun i j => .int (i * 2 ^ j.toNat)
def shrD : D → D → Res D := iop (fun _ j => decide (0 ≤ j)) fun i j => .int (i / 2 ^ j.toNat)
def andD : D → D → Res D := iop (fun _ _ => true) fun i j => .int (Builtin.bitAnd i j)
def orD : D → D → Res D := iop (fun _ _ => true) fun i j => .int (Builtin.bitOr i j)
theorem od_sub : OpD X (binaryOp .Sub) subD := od_iop0 op_sub fun _ _ _ => Rp.int _
theorem od_mul : OpD X (binaryOp .Mult) mulD := od_iop op_mulW (fun i j h => by have := of_decide_eq_true h; exact this) fun _ _ _ => Rp.int _
theorem od_fdiv : OpD X (binaryOp .FloorDiv) fdivD := od_iop op_fdivW (fun i j h => by have := of_decide_eq_true h; exact this) fun _ _ _ => Rp.int _
theorem od_mod : OpD X (binaryOp .Mod) modD := od_iop op_mod (fun i j h => by have := of_decide_eq_true h; exact this) fun _ _ _ => Rp.int _
theorem od_pow : OpD X (binaryOp .Pow) powD := od_iop op_pow (fun i j h => by have := of_decide_eq_true h; exact this) fun _ _ _ => Rp.int _
theorem od_shl : OpD X (binaryOp .LShift) shlD := od_iop op_shl (fun i j h => by have := of_decide_eq_true h; exact this) fun _ _ _ => Rp.int _
theorem od_shr : OpD X (binaryOp .RShift) shrD := od_iop op_shr (fun i j h => by have := of_decide_eq_true h; exact this) fun _ _ _ => Rp.int _
theorem od_and : OpD X (binaryOp .BitAnd) andD := od_iop0 op_and fun _ _ _ => Rp.int _
theorem od_or : OpD X (binaryOp .BitOr) orD := od_iop0 op_or fun _ _ _ => Rp.int _
def ltD : D → D → Res D := iop (fun _ _ => true) fun i j => .bool (decide (i < j))
def leD : D → D → Res D := iop (fun _ _ => true) fun i j => .bool (decide (i ≤ j))
def gtD : D → D → Res D := iop (fun _ _ => true) fun i j => .bool (decide (j < i))
def geD : D → D → Res D := iop (fun _ _ => true) fun i j => .bool (decide (j ≤ i))
theorem od_lt : OpD X (compareOp .Lt) ltD := od_iop0 op_lt fun _ _ _ => Rp.bl _
theorem od_le : OpD X (compareOp .LtE) leD := od_iop0 op_le fun _ _ _ => Rp.bl _
theorem od_gt : OpD X (compareOp .Gt) gtD := od_iop0 op_gt fun _ _ _ => Rp.bl _
theorem od_ge : OpD X (compareOp .GtE) geD := od_iop0 op_ge fun _ _ _ => Rp.bl _
def negD : D → Res D
  | .int i => .ok (.int (-i))
  | _ => .stuck
theorem ud_neg : UnD X (unaryOp .USub) negD := by
  refine ⟨_, un_neg, fun v x R H Q Ex rx s h => ?_⟩
  cases rx with
  | int i => exact ⟨i, rfl, Post.now s (Rp.int _) h⟩
  | _ => exact h.elim

def eChain (o o' : D → D → Res D) (f g k : DS → Res D) : DS → Res D := fun σ => (f σ).bind fun x => (g σ).bind fun y => (o x y).bind fun z => match z with
  | .bool true => (k σ).bind fun w => o' y w
  | .bool false => .ok (.bool false)
  | _ => .stuck

def eqD : D → D → Res D := fun x y => if SeqAt.shaped x && SeqAt.shaped y then .ok (.bool (PyData.eqv x y)) else .stuck
def neD : D → D → Res D := fun x y => if SeqAt.shaped x && SeqAt.shaped y then .ok (.bool (!PyData.eqv x y)) else .stuck
theorem od_eq (hu : X.A.units + 64 < cLine) : OpD X (compareOp .Eq) eqD := by
  refine ⟨_, op_eqD hu, fun v w x y R H Q Ex rx ry s h => ?_⟩
  unfold eqD at h
  by_cases hl : (SeqAt.shaped x && SeqAt.shaped y) = true
  · rw [if_pos hl] at h
    obtain ⟨h1, h2⟩ := Bool.and_eq_true_iff.mp hl
    exact ⟨x, y, (rx.mono s).dp (SeqAt.canLay_of_shaped h1), (ry.mono s).dp (SeqAt.canLay_of_shaped h2), h1, h2, Post.now s (Rp.bl _) h⟩
  · rw [if_neg hl] at h; exact h.elim
theorem od_ne (hu : X.A.units + 64 < cLine) : OpD X (compareOp .NotEq) neD := by
  refine ⟨_, op_neD hu, fun v w x y R H Q Ex rx ry s h => ?_⟩
  unfold neD at h
  by_cases hl : (SeqAt.shaped x && SeqAt.shaped y) = true
  · rw [if_pos hl] at h
    obtain ⟨h1, h2⟩ := Bool.and_eq_true_iff.mp hl
    exact ⟨x, y, (rx.mono s).dp (SeqAt.canLay_of_shaped h1), (ry.mono s).dp (SeqAt.canLay_of_shaped h2), h1, h2, Post.now s (Rp.bl _) h⟩
  · rw [if_neg hl] at h; exact h.elim
def isND : D → D → Res D
  | x, .none => .ok (.bool (match x with | .none => true | _ => false))
  | _, _ => .stuck
def notND : D → D → Res D
  | x, .none => .ok (.bool (match x with | .none => false | _ => true))
  | _, _ => .stuck
theorem od_isN : OpD X (compareOp .Is) isND := by
  refine ⟨_, op_isN, fun v w x y R H Q Ex rx ry s h => ?_⟩
  cases ry with
  | non =>
    refine ⟨rfl, ?_⟩
    cases rx <;> exact Post.now s (Rp.bl _) h
  | _ => cases x <;> exact h.elim
theorem od_notN : OpD X (compareOp .IsNot) notND := by
  refine ⟨_, op_notN, fun v w x y R H Q Ex rx ry s h => ?_⟩
  cases ry with
  | non =>
    refine ⟨rfl, ?_⟩
    cases rx <;> exact Post.now s (Rp.bl _) h
  | _ => cases x <;> exact h.elim
def rInT (K : PySem.W.Frag) (neg : Bool) : R2 := fun x y H Q => ∃ d ds, Dp K H x d ∧ Dp K H y (.tuple ds) ∧ SeqAt.shaped d = true ∧ SeqAt.shaped (.tuple ds) = true ∧ Q (.bl (if neg then !ds.any fun z => PyData.eqv z d else ds.any fun z => PyData.eqv z d)) H
theorem canA {ds : List D} (h : SeqAt.shaped (.tuple ds) = true) : PyData.canLayAll0 ds = true := by
  have := SeqAt.canLay_of_shaped h
  simpa [PyData.canLay0] using this
theorem op_inT (hu : X.A.units + 65 < cLine) : OpR X (compareOp .In) (rInT X.K false) := fun pins s σ H x y v u Q I rx ry h => by
  obtain ⟨d, ds, hd, he, sd, se, q⟩ := h
  obtain ⟨as, r1⟩ := Dp.reads I d x v hd rx
  obtain ⟨bs, r2⟩ := Dp.reads I (.tuple ds) y u he ry
  refine SeqAt.in_tuple_reads r2 r1 (canA se) (SeqAt.canLay_of_shaped sd) (room_in_shaped (xs := ds) sd hu) ⟨.bl _, H, I, rfl, q⟩
theorem op_notInT (hu : X.A.units + 65 < cLine) : OpR X (compareOp .NotIn) (rInT X.K true) := fun pins s σ H x y v u Q I rx ry h => by
  obtain ⟨d, ds, hd, he, sd, se, q⟩ := h
  obtain ⟨as, r1⟩ := Dp.reads I d x v hd rx
  obtain ⟨bs, r2⟩ := Dp.reads I (.tuple ds) y u he ry
  refine SeqAt.notIn_tuple_reads r2 r1 (canA se) (SeqAt.canLay_of_shaped sd) (room_in_shaped (xs := ds) sd hu) ⟨.bl _, H, I, rfl, q⟩
def memD (d : D) (ds : List D) : Bool := ds.any fun z => PyData.eqv z d
def inD : D → D → Res D
  | x, .list ds => if SeqAt.shaped x && SeqAt.shaped (.list ds) then .ok (.bool (memD x ds)) else .stuck
  | x, .tuple ds => if SeqAt.shaped x && SeqAt.shaped (.tuple ds) then .ok (.bool (memD x ds)) else .stuck
  | _, _ => .stuck
def notInD : D → D → Res D
  | x, .list ds => if SeqAt.shaped x && SeqAt.shaped (.list ds) then .ok (.bool (!memD x ds)) else .stuck
  | x, .tuple ds => if SeqAt.shaped x && SeqAt.shaped (.tuple ds) then .ok (.bool (!memD x ds)) else .stuck
  | _, _ => .stuck
theorem od_in (hu : X.A.units + 65 < cLine) : OpD X (compareOp .In) inD := by
  refine ⟨_, (op_inD hu).or (op_inT hu), fun v w x y R H Q Ex rx ry s h => ?_⟩
  cases ry with
  | lst h1 q1 =>
    rename_i a xs ds
    have h' : Post X.K X.mg Ex (rV X.K) R H Q (if SeqAt.shaped x && SeqAt.shaped (.list ds) then .ok (.bool (memD x ds)) else .stuck) := by cases x <;> exact h
    by_cases hl : (SeqAt.shaped x && SeqAt.shaped (.list ds)) = true
    · rw [if_pos hl] at h'
      obtain ⟨z1, z2⟩ := Bool.and_eq_true_iff.mp hl
      exact .inl ⟨x, ds, (rx.mono s).dp (SeqAt.canLay_of_shaped z1), (Rp.mono s (.lst h1 q1)).dp (SeqAt.canLay_of_shaped z2), z1, z2, Post.now s (Rp.bl _) h'⟩
    · rw [if_neg hl] at h'; exact h'.elim
  | tup h1 q1 =>
    rename_i a xs ds
    have h' : Post X.K X.mg Ex (rV X.K) R H Q (if SeqAt.shaped x && SeqAt.shaped (.tuple ds) then .ok (.bool (memD x ds)) else .stuck) := by cases x <;> exact h
    by_cases hl : (SeqAt.shaped x && SeqAt.shaped (.tuple ds)) = true
    · rw [if_pos hl] at h'
      obtain ⟨z1, z2⟩ := Bool.and_eq_true_iff.mp hl
      exact .inr ⟨x, ds, (rx.mono s).dp (SeqAt.canLay_of_shaped z1), (Rp.mono s (.tup h1 q1)).dp (SeqAt.canLay_of_shaped z2), z1, z2, Post.now s (Rp.bl _) h'⟩
    · rw [if_neg hl] at h'; exact h'.elim
  | _ => cases x <;> exact h.elim
theorem od_notIn (hu : X.A.units + 65 < cLine) : OpD X (compareOp .NotIn) notInD := by
  refine ⟨_, (op_notInD hu).or (op_notInT hu), fun v w x y R H Q Ex rx ry s h => ?_⟩
  cases ry with
  | lst h1 q1 =>
    rename_i a xs ds
    have h' : Post X.K X.mg Ex (rV X.K) R H Q (if SeqAt.shaped x && SeqAt.shaped (.list ds) then .ok (.bool (!memD x ds)) else .stuck) := by cases x <;> exact h
    by_cases hl : (SeqAt.shaped x && SeqAt.shaped (.list ds)) = true
    · rw [if_pos hl] at h'
      obtain ⟨z1, z2⟩ := Bool.and_eq_true_iff.mp hl
      exact .inl ⟨x, ds, (rx.mono s).dp (SeqAt.canLay_of_shaped z1), (Rp.mono s (.lst h1 q1)).dp (SeqAt.canLay_of_shaped z2), z1, z2, Post.now s (Rp.bl _) h'⟩
    · rw [if_neg hl] at h'; exact h'.elim
  | tup h1 q1 =>
    rename_i a xs ds
    have h' : Post X.K X.mg Ex (rV X.K) R H Q (if SeqAt.shaped x && SeqAt.shaped (.tuple ds) then .ok (.bool (!memD x ds)) else .stuck) := by cases x <;> exact h
    by_cases hl : (SeqAt.shaped x && SeqAt.shaped (.tuple ds)) = true
    · rw [if_pos hl] at h'
      obtain ⟨z1, z2⟩ := Bool.and_eq_true_iff.mp hl
      exact .inr ⟨x, ds, (rx.mono s).dp (SeqAt.canLay_of_shaped z1), (Rp.mono s (.tup h1 q1)).dp (SeqAt.canLay_of_shaped z2), z1, z2, Post.now s (Rp.bl _) h'⟩
    · rw [if_neg hl] at h'; exact h'.elim
  | _ => cases x <;> exact h.elim

def IxD (X : Cx) (o : D → D → Res D) : Prop :=
  ∃ r : R2, IxR X r ∧ ∀ (v w : V) (x y : D) (R H : Hp) (Q : VK) (Ex : XK), Rp X.K R v x → Rp X.K R w y → Same R H → Post X.K X.mg Ex (rV X.K) R H Q (o x y) → r v w H Q
variable {a b c e : Expr} {f g k : DS → Res D} {pos : Pos}
theorem de_ix {o : D → D → Res D} (ho : IxD X o) (ha : DE X E a f) (hb : DE X E b g) (hs : PlainIx b := by exact fun _ _ => rfl) : DE X E (.Subscript a b pos) (e2 o f g) := by
  obtain ⟨r, hr, q⟩ := ho
  obtain ⟨ta, pa, qa⟩ := ha
  obtain ⟨tb, pb, qb⟩ := hb
  exact ⟨_, pe_ix hr pa pb hs, fun σ τ R H Q hs s h => two_run (r := r) qa qb q hs s h⟩
theorem RpA.atI {K : PySem.W.Frag} {R : Hp} {vs : List V} {ds : List D} {i : Int} {d : D} (h : RpA K R vs ds) (q : L2.atI ds i = some d) : ∃ v, L2.atI vs i = some v ∧ Rp K R v d := by
  unfold L2.atI at q ⊢
  rw [h.length]
  cases z : ixN ds.length i with
  | none => rw [z] at q; cases q
  | some j =>
    rw [z] at q
    exact h.get q
def optR (o : Option D) : Res D := match o with
  | some d => .ok d
  | none => .stuck
def ixD : D → D → Res D
  | .list ds, .int i => optR (L2.atI ds i)
  | .tuple ds, .int i => optR (L2.atI ds i)
  | .dict ((.bool false, .str _) :: kvs), .int i => optR (L2.atI (kvs.map Prod.snd) i)
  | .str z, .int i => if z.length ≤ sizeLine then (match L2.atI z.cps.toList i with | some c => .ok (.str ⟨#[c]⟩) | none => .stuck) else .stuck
  | _, _ => .stuck
theorem id_ix : IxD X ixD := by
  refine ⟨_, ix_seq, fun v w x y R H Q Ex rx ry s h => ?_⟩
  cases rx with
  | lst h1 q1 => cases ry with
    | int i =>
      rename_i a xs ds
      have h' : Post X.K X.mg Ex (rV X.K) R H Q (optR (L2.atI ds i)) := h
      cases z : L2.atI ds i with
      | none => rw [z] at h'; exact h'.elim
      | some d =>
        rw [z] at h'
        obtain ⟨v, z1, z2⟩ := q1.atI z
        exact .inl ⟨a, xs, i, v, rfl, rfl, (ls_same s h1).sq, z1, Post.now s z2 h'⟩
    | _ => exact h.elim
  | tup h1 q1 => cases ry with
    | int i =>
      rename_i a xs ds
      have h' : Post X.K X.mg Ex (rV X.K) R H Q (optR (L2.atI ds i)) := h
      cases z : L2.atI ds i with
      | none => rw [z] at h'; exact h'.elim
      | some d =>
        rw [z] at h'
        obtain ⟨v, z1, z2⟩ := q1.atI z
        exact .inr (.inl ⟨a, xs, i, v, rfl, rfl, SqT.of (s _ _ h1), z1, Post.now s z2 h'⟩)
    | _ => exact h.elim
  | str z => cases ry with
    | int i =>
      simp only [ixD] at h
      by_cases hl : z.length ≤ sizeLine
      · rw [if_pos hl] at h
        cases q : L2.atI z.cps.toList i with
        | none => rw [q] at h; exact h.elim
        | some c =>
          rw [q] at h
          exact .inr (.inr ⟨z, i, c, rfl, rfl, hl, q, Post.now s (Rp.str _) h⟩)
      · rw [if_neg hl] at h; exact h.elim
    | _ => exact h.elim
  | dT g1 g2 => cases g2 <;> cases y <;> exact h.elim
  | ob g1 g2 =>
    cases g1 with
    | wt k1 k2 k3 k4 k5 => cases ry with
      | int i =>
        rename_i a _ kvs _ _ _ vs
        have h' : Post X.K X.mg Ex (rV X.K) R H Q (optR (L2.atI (kvs.map Prod.snd) i)) := h
        cases z : L2.atI (kvs.map Prod.snd) i with
        | none => rw [z] at h'; exact h'.elim
        | some d =>
          rw [z] at h'
          obtain ⟨v, z1, z2⟩ := (RpF.wt_inv g2).atI z
          exact .inr (.inl ⟨a, vs, i, v, rfl, rfl, .inr ⟨_, _, _, k1, k2, k3, k4, k5⟩, z1, Post.now s z2 h'⟩)
      | _ => exact h.elim
    | _ => cases y <;> exact h.elim
  | _ => cases y <;> exact h.elim
structure DO (X : Cx) (E : WX) (e : Option Expr) (f : DS → Res (Option Int)) : Prop where
  run : ∃ t : TO, PO X e t ∧ ∀ (σ : DS) (τ : L2.St) (R H : Hp) (Q : Option Int → Hp → Prop), RS X.K R σ τ → Same R H → Post X.K X.mg (xat E τ) (fun _ (b : Option Int) c => b = c) R H Q (f σ) → t τ H Q
def oNone : DS → Res (Option Int) := fun _ => .ok none
def oSome (f : DS → Res D) : DS → Res (Option Int) := fun σ => (f σ).bind fun d => match d with
  | .int i => .ok (some i)
  | _ => .stuck
theorem do_none : DO X E none oNone := ⟨_, po_none, fun _ _ _ _ _ _ s h => Post.now s rfl h⟩
theorem do_some (ha : DE X E a f) : DO X E (some a) (oSome f) := by
  obtain ⟨ta, pa, qa⟩ := ha
  refine ⟨_, po_some pa, fun σ τ R H Q hs s h => qa σ τ R H _ hs s (post_bind s h fun x v R1 H1 e1 q1 h1 => ?_)⟩
  cases q1 with
  | int i => exact ⟨i, rfl, Post.now e1.sub rfl h1⟩
  | _ => exact h1.elim
def cutD (xs : List D) (lo hi : Option Int) : List D := (xs.drop (HT.sIx xs.length 0 lo)).take (HT.sIx xs.length xs.length hi - HT.sIx xs.length 0 lo)
theorem RpA.cut {K : PySem.W.Frag} {R : Hp} {vs : List V} {ds : List D} (lo hi : Option Int) (h : RpA K R vs ds) : RpA K R (cutV vs lo hi) (cutD ds lo hi) := by
  unfold cutV cutD
  rw [h.length]
  exact (h.drop _).take _
theorem cutD_whole {ds : List D} {lo hi : Option Int} (h : HT.sIx ds.length 0 lo = 0 ∧ HT.sIx ds.length ds.length hi = ds.length) : cutD ds lo hi = ds := by
  unfold cutD
  rw [h.1, h.2, List.drop_zero, Nat.sub_zero, List.take_length]
def slD : D → Option Int → Option Int → Res D
  | .list ds, lo, hi => .ok (.list (cutD ds lo hi))
  | .tuple ds, lo, hi => .ok (.tuple (cutD ds lo hi))
  | _, _, _ => .stuck
theorem SlR.or {r q : V → Option Int → Option Int → Hp → VK → Prop} (h : SlR X r) (k : SlR X q) : SlR X (fun x l u H Q => r x l u H Q ∨ q x l u H Q) := fun pins s σ H x v vl vu lo hi sl Q I rx hs pl pu z => by
  rcases z with z | z
  · exact h pins s σ H x v vl vu lo hi sl Q I rx hs pl pu z
  · exact k pins s σ H x v vl vu lo hi sl Q I rx hs pl pu z
def eSl (f : DS → Res D) (lo hi : DS → Res (Option Int)) : DS → Res D := fun σ => (f σ).bind fun x => (lo σ).bind fun l => (hi σ).bind fun u => slD x l u
theorem de_slice {lo hi : Option Expr} {fl fh : DS → Res (Option Int)} {p2 : Pos} (he : DE X E e f) (hl : DO X E lo fl) (hh : DO X E hi fh) : DE X E (.Subscript e (.Slice lo hi none p2) pos) (eSl f fl fh) := by
  obtain ⟨te, e1, e2⟩ := he
  obtain ⟨tl, l1, l2⟩ := hl
  obtain ⟨th, h1, h2⟩ := hh
  refine ⟨_, pe_slice (sl_list.or sl_tupA) e1 l1 h1, fun σ τ R H Q hs s h => ?_⟩
  refine e2 σ τ R H _ hs s (post_bind s h fun x v R1 H1 x1 q1 k1 => ?_)
  refine l2 σ τ R1 H1 _ (hs.mono x1.rr) x1.sub (post_bind x1.sub k1 fun l l' R2 H2 x2 q2 k2 => ?_)
  subst q2
  refine h2 σ τ R2 H2 _ ((hs.mono x1.rr).mono x2.rr) x2.sub (post_bind x2.sub k2 fun u u' R3 H3 x3 q3 k3 => ?_)
  subst q3
  have q4 := (q1.mono x2.rr).mono x3.rr
  cases q4 with
  | lst z1 z2 => exact .inl ⟨_, _, rfl, (ls_same x3.sub z1).sq, fun p hp => new_lst (z2.cut _ _) x3.sub hp k3⟩
  | tup z1 z2 =>
    rename_i a xs ds
    refine .inr ⟨a, xs, rfl, SqT.of (x3.sub _ _ z1), fun w => ?_, fun _ p hp => new_tup (z2.cut _ _) x3.sub hp k3⟩
    have k3' : Post X.K X.mg (xat E τ) (rV X.K) R3 H3 Q (.ok (.tuple (cutD ds l' u'))) := k3
    rw [cutD_whole (by rw [← z2.length]; exact w)] at k3'
    exact Post.now x3.sub (Rp.tup z1 z2) k3'
  | _ => exact k3.elim

def CallD (X : Cx) (fn : Value) (o : List D → Res D) : Prop :=
  ∃ r : List V → Hp → VK → Prop, CallR X fn r ∧ ∀ (vs : List V) (ds : List D) (R H : Hp) (Q : VK) (Ex : XK), RpA X.K R vs ds → Same R H → Post X.K X.mg Ex (rV X.K) R H Q (o ds) → r vs H Q
def eCall (o : List D → Res D) (g : DS → Res (List D)) : DS → Res D := fun σ => (g σ).bind o
variable {es : List Expr} {ga : DS → Res (List D)} {x : Str} {id T : String} {p : Pos}
theorem de_callB {o : List D → Res D} (ho : CallD X (.builtin id) o) (hg : Gl X x) (hm : X.mg x = none) (hv : bootBuiltins x = some (.builtin id)) (ha : DA X E (e :: es) ga) (hn : x ≠ "__name__" := by decide) (hdb : (x == ("__debug__" : Str)) = false := by decide)
    (he : starEach (e :: es) X.env = (false, eval e X.env) :: starEach es X.env := by rfl) (hpl : (backTo pos (starEach es X.env)).any (·.1) = false := by rfl) :
    DE X E (.Call (.Name x p) (e :: es) [] pos) (eCall o ga) := by
  obtain ⟨r, hr, q⟩ := ho
  obtain ⟨t, a1, a2⟩ := ha
  exact ⟨_, pe_callB hr hg hm hv a1 hn hdb he hpl, fun σ τ R H Q hs s h => a2 σ τ R H _ hs s (post_bind s h fun d v R1 H1 e1 q1 h1 => q v d R1 H1 Q _ q1 e1.sub h1)⟩
theorem de_callTy {o : List D → Res D} (ho : CallD X (.type T) o) (hg : Gl X x) (hm : X.mg x = none) (hv : bootBuiltins x = some (.type T)) (ha : DA X E (e :: es) ga) (hn : x ≠ "__name__" := by decide) (hdb : (x == ("__debug__" : Str)) = false := by decide)
    (he : starEach (e :: es) X.env = (false, eval e X.env) :: starEach es X.env := by rfl) (hpl : (backTo pos (starEach es X.env)).any (·.1) = false := by rfl) :
    DE X E (.Call (.Name x p) (e :: es) [] pos) (eCall o ga) := by
  obtain ⟨r, hr, q⟩ := ho
  obtain ⟨t, a1, a2⟩ := ha
  exact ⟨_, pe_callTy hr hg hm hv a1 hn hdb he hpl, fun σ τ R H Q hs s h => a2 σ τ R H _ hs s (post_bind s h fun d v R1 H1 e1 q1 h1 => q v d R1 H1 Q _ q1 e1.sub h1)⟩
def lenD : List D → Res D
  | [.list ds] => .ok (.int ds.length)
  | [.tuple ds] => .ok (.int ds.length)
  | [.str z] => if z.length ≤ sizeLine then .ok (.int z.length) else .stuck
  | _ => .stuck
theorem one_inv {K : PySem.W.Frag} {R : Hp} {vs : List V} {d : D} (h : RpA K R vs [d]) : ∃ v, vs = [v] ∧ Rp K R v d := by
  cases h with
  | cons a b => cases b; exact ⟨_, rfl, a⟩
theorem two_inv {K : PySem.W.Frag} {R : Hp} {vs : List V} {d e : D} (h : RpA K R vs [d, e]) : ∃ v w, vs = [v, w] ∧ Rp K R v d ∧ Rp K R w e := by
  cases h with
  | cons a b =>
    obtain ⟨w, rfl, c⟩ := one_inv b
    exact ⟨_, _, rfl, a, c⟩
theorem cd_len : CallD X (.builtin "len") lenD := by
  refine ⟨_, CallR.or call_len_seq call_len_str, fun vs ds R H Q Ex r s h => ?_⟩
  match ds, r, h with
  | [.list ds], r, h =>
    obtain ⟨v, rfl, q⟩ := one_inv r
    cases q with
    | lst h1 q1 => exact .inl ⟨_, _, rfl, .inl (ls_same s h1).sq, by rw [q1.length]; exact Post.now s (Rp.int _) h⟩
  | [.tuple ds], r, h =>
    obtain ⟨v, rfl, q⟩ := one_inv r
    cases q with
    | tup h1 q1 => exact .inl ⟨_, _, rfl, .inr (SqT.of (s _ _ h1)), by rw [q1.length]; exact Post.now s (Rp.int _) h⟩
  | [.str z], r, h =>
    obtain ⟨v, rfl, q⟩ := one_inv r
    cases q
    simp only [lenD] at h
    by_cases hl : z.length ≤ sizeLine
    · rw [if_pos hl] at h; exact .inr ⟨z, rfl, hl, Post.now s (Rp.int _) h⟩
    · rw [if_neg hl] at h; exact h.elim
  | [.none], _, h => exact h.elim
  | [.bool _], _, h => exact h.elim
  | [.int _], _, h => exact h.elim
  | [.dict _], _, h => exact h.elim
  | [], _, h => exact h.elim
  | d1 :: _ :: _, _, h => cases d1 <;> exact h.elim
def tupleD : List D → Res D
  | [.list ds] => .ok (.tuple ds)
  | [.tuple ds] => .ok (.tuple ds)
  | _ => .stuck
theorem cd_tuple : CallD X (.type "tuple") tupleD := by
  refine ⟨_, call_tuple_of, fun vs ds R H Q Ex r s h => ?_⟩
  match ds, r, h with
  | [.list ds], r, h =>
    obtain ⟨v, rfl, q⟩ := one_inv r
    cases q with
    | lst h1 q1 => exact ⟨_, _, rfl, .inl ⟨(ls_same s h1).sq, fun l hl => new_tup q1 s hl h⟩⟩
  | [.tuple ds], r, h =>
    obtain ⟨v, rfl, q⟩ := one_inv r
    cases q with
    | tup h1 q1 => exact ⟨_, _, rfl, .inr ⟨SqT.of (s _ _ h1), Post.now s (Rp.tup h1 q1) h⟩⟩
  | [.none], _, h => exact h.elim
  | [.bool _], _, h => exact h.elim
  | [.int _], _, h => exact h.elim
  | [.str _], _, h => exact h.elim
  | [.dict _], _, h => exact h.elim
  | [], _, h => exact h.elim
  | d1 :: _ :: _, _, h => cases d1 <;> exact h.elim
def listD : List D → Res D
  | [.list ds] => .ok (.list ds)
  | [.tuple ds] => .ok (.list ds)
  | _ => .stuck
theorem cd_list : CallD X (.type "list") listD := by
  refine ⟨_, call_list_of, fun vs ds R H Q Ex r s h => ?_⟩
  match ds, r, h with
  | [.list ds], r, h =>
    obtain ⟨v, rfl, q⟩ := one_inv r
    cases q with
    | lst h1 q1 => exact ⟨_, _, rfl, .inl (ls_same s h1).sq, fun l hl => new_lst q1 s hl h⟩
  | [.tuple ds], r, h =>
    obtain ⟨v, rfl, q⟩ := one_inv r
    cases q with
    | tup h1 q1 => exact ⟨_, _, rfl, .inr (SqT.of (s _ _ h1)), fun l hl => new_lst q1 s hl h⟩
  | [.none], _, h => exact h.elim
  | [.bool _], _, h => exact h.elim
  | [.int _], _, h => exact h.elim
  | [.str _], _, h => exact h.elim
  | [.dict _], _, h => exact h.elim
  | [], _, h => exact h.elim
  | d1 :: _ :: _, _, h => cases d1 <;> exact h.elim
def intD : List D → Res D
  | [.int i] => .ok (.int i)
  | [.bool b] => .ok (.int (if b then 1 else 0))
  | _ => .stuck
theorem cd_int : CallD X (.type "int") intD := by
  refine ⟨_, call_int1, fun vs ds R H Q Ex r s h => ?_⟩
  match ds, r, h with
  | [.int i], r, h =>
    obtain ⟨v, rfl, q⟩ := one_inv r
    cases q
    exact .inl ⟨i, rfl, Post.now s (Rp.int _) h⟩
  | [.bool b], r, h =>
    obtain ⟨v, rfl, q⟩ := one_inv r
    cases q
    exact .inr ⟨b, rfl, Post.now s (Rp.int _) h⟩
  | [.none], _, h => exact h.elim
  | [.list _], _, h => exact h.elim
  | [.tuple _], _, h => exact h.elim
  | [.str _], _, h => exact h.elim
  | [.dict _], _, h => exact h.elim
  | [], _, h => exact h.elim
  | d1 :: _ :: _, _, h => cases d1 <;> exact h.elim
def pairI (o : Int → Int → Res D) : List D → Res D
  | [.int i, .int j] => o i j
  | _ => .stuck
theorem pairI_inv {o : Int → Int → Res D} {vs : List V} {ds : List D} {R H : Hp} {Q : VK} {Ex : XK} {K : PySem.W.Frag} {mg : Str → Option Value} (r : RpA K R vs ds) (h : Post K mg Ex (rV K) R H Q (pairI o ds)) :
    ∃ i j, vs = [.int i, .int j] ∧ Post K mg Ex (rV K) R H Q (o i j) := by
  match ds, r, h with
  | [.int i, .int j], r, h =>
    obtain ⟨v, w, rfl, q1, q2⟩ := two_inv r
    cases q1
    cases q2
    exact ⟨i, j, rfl, h⟩
  | [], _, h => exact h.elim
  | [d1], _, h => cases d1 <;> exact h.elim
  | d1 :: d2 :: _ :: _, _, h => cases d1 <;> first | exact h.elim | (cases d2 <;> exact h.elim)
  | [.none, _], _, h => exact h.elim
  | [.bool _, _], _, h => exact h.elim
  | [.str _, _], _, h => exact h.elim
  | [.list _, _], _, h => exact h.elim
  | [.tuple _, _], _, h => exact h.elim
  | [.dict _, _], _, h => exact h.elim
  | [.int _, .none], _, h => exact h.elim
  | [.int _, .bool _], _, h => exact h.elim
  | [.int _, .str _], _, h => exact h.elim
  | [.int _, .list _], _, h => exact h.elim
  | [.int _, .tuple _], _, h => exact h.elim
  | [.int _, .dict _], _, h => exact h.elim
def divmodD : List D → Res D := pairI fun i j => if 0 < j ∧ j.natAbs.log2 < 9000 then .ok (.tuple [.int (i / j), .int (i % j)]) else .stuck
theorem cd_divmod : CallD X (.builtin "divmod") divmodD := by
  refine ⟨_, call_divmodW, fun vs ds R H Q Ex r s h => ?_⟩
  obtain ⟨i, j, rfl, h'⟩ := pairI_inv r h
  by_cases hl : 0 < j ∧ j.natAbs.log2 < 9000
  · rw [if_pos hl] at h'
    exact ⟨i, j, rfl, ⟨hl.1, PyProof.noPylong_of_log2 hl.2⟩, fun p hp => new_tup (.cons (.int _) (.cons (.int _) .nil)) s hp h'⟩
  · rw [if_neg hl] at h'; exact h'.elim
def min2D : List D → Res D := pairI fun i j => .ok (.int (if j < i then j else i))
def max2D : List D → Res D := pairI fun i j => .ok (.int (if j > i then j else i))
theorem cd_min2 (hc : X.calm = true) : CallD X (.builtin "min") min2D := by
  refine ⟨_, call_min2 hc, fun vs ds R H Q Ex r s h => ?_⟩
  obtain ⟨i, j, rfl, h'⟩ := pairI_inv r h
  exact ⟨i, j, rfl, Post.now s (Rp.int _) h'⟩
theorem cd_max2 (hc : X.calm = true) : CallD X (.builtin "max") max2D := by
  refine ⟨_, call_max2 hc, fun vs ds R H Q Ex r s h => ?_⟩
  obtain ⟨i, j, rfl, h'⟩ := pairI_inv r h
  exact ⟨i, j, rfl, Post.now s (Rp.int _) h'⟩
end
end E3

namespace E3
open PySem PySem.Spec PyProof.Rows L2

def PostN (K : PySem.W.Frag) (mg : Str → Option Value) (Ex : XK) (R H : Hp) (Q : VK) : Res D → Prop
  | .ok d => ∀ a R' H', Ext R H R' H' → R' a = none → H a = none → Own K R' H' a d → Q (.ref a) H'
  | .exc x => ∀ c dx H', Same H H' → ExL K mg H x c dx H' → Ex c dx H'
  | .stuck => False
structure DN (X : Cx) (E : WX) (e : Expr) (f : DS → Res D) : Prop where
  run : ∃ t : TE, PE X e t ∧ ∀ (σ : DS) (τ : L2.St) (R H : Hp) (Q : VK), RS X.K R σ τ → Same R H → PostN X.K X.mg (xat E τ) R H Q (f σ) → t τ H Q
theorem PostN.step {K : PySem.W.Frag} {mg : Str → Option Value} {Ex : XK} {R H R1 H1 : Hp} {Q : VK} {r : Res D} (e : Ext R H R1 H1) (h : PostN K mg Ex R H Q r) : PostN K mg Ex R1 H1 Q r := by
  cases r with
  | ok d =>
    refine fun a R' H' x n1 n2 q => h a R' H' (e.trans x) n1 ?_ q
    exact e.hh.free n2
  | exc x => exact fun c dx H' s q => h c dx H' (e.hh.trans s) (q.back e.hh)
  | stuck => exact h
section
variable {X : Cx} {E : WX} {e : Expr} {f : DS → Res D} {pos : Pos}
theorem Post.toN {K : PySem.W.Frag} {mg : Str → Option Value} {Ex : XK} {R H : Hp} {Q : VK} {r : Res D} (h : Post K mg Ex (rV K) R H Q r) : PostN K mg Ex R H Q r := by
  cases r with
  | ok d =>
    intro a R' H' x n1 n2 q
    obtain ⟨o, z1, z2, z3⟩ := q.some
    have rr : Same R' (upd R' a o) := same_new n1
    refine h (.ref a) (upd R' a o) H' ⟨x.rr.trans rr, fun b y w => ?_, x.hh, fun b y w => ?_⟩ ?_
    · by_cases hb : b = a
      · subst hb; rw [upd_same] at w; rw [z1]; exact w
      · rw [upd_ne hb] at w; exact x.sub _ _ w
    · by_cases hb : b = a
      · subst hb; exact .inr (.inl n2)
      · rw [upd_ne hb] at w; exact x.new _ _ w
    · cases d with
      | list ds =>
        obtain ⟨vs, w1, w2⟩ := q
        rw [z1] at w1; cases w1
        exact .lst (.inl (.inl upd_same)) (w2.mono rr)
      | dict ks =>
        obtain ⟨vs, w1, w2⟩ := q
        rw [z1] at w1; cases w1
        exact .dT (.inl upd_same) (w2.mono rr)
      | _ => exact q.elim
  | exc x => exact h
  | stuck => exact h
theorem DN.de (h : DN X E e f) : DE X E e f := by
  obtain ⟨t, h1, h2⟩ := h
  exact ⟨t, h1, fun σ τ R H Q hs s q => h2 σ τ R H Q hs s q.toN⟩
theorem post_bindN {α β : Type} {Ex : XK} {rel : Hp → β → α → Prop} {R H : Hp} {Q : VK} {r : Res α} {g : α → Res D} {T : β → Hp → Prop} (h : PostN X.K X.mg Ex R H Q (r.bind g))
    (k : ∀ d v R' H', Ext R H R' H' → rel R' v d → PostN X.K X.mg Ex R' H' Q (g d) → T v H') : Post X.K X.mg Ex rel R H T r := by
  cases r with
  | ok d => exact fun v R' H' e q => k d v R' H' e q (h.step e)
  | exc x => exact h
  | stuck => exact h
theorem new_own {xs : List V} {ds : List D} {R H : Hp} {Q : VK} {p : Addr} {Ex : XK} {K : PySem.W.Frag} {mg : Str → Option Value} (q : RpA K R xs ds) (s : Same R H) (hp : H p = none) (h : PostN K mg Ex R H Q (.ok (.list ds))) : Q (.ref p) (upd H p (.lst xs)) :=
  h p R _ (Ext.allocH s hp) (s.free hp) hp ⟨xs, upd_same, q⟩
variable {es : List Expr} {ga : DS → Res (List D)}
theorem dn_lst (h : DA X E es ga) : DN X E (.List es pos) (eLst ga) := by
  obtain ⟨t, h1, h2⟩ := h
  refine ⟨_, pe_lst h1, fun σ τ R H Q hs s h => h2 σ τ R H _ hs s (post_bindN h fun xs vs R1 H1 e1 q1 k => ?_)⟩
  unfold lstD at k
  by_cases hl : xs.length ≤ sizeLine
  · rw [if_pos hl] at k
    exact ⟨by rw [q1.length]; exact hl, fun p hp => new_own q1 e1.sub hp k⟩
  · rw [if_neg hl] at k; exact k.elim
theorem dn_dict : DN X E (.Dict [] [] pos) (eC (.dict [])) :=
  ⟨_, pe_dnewT, fun σ τ R H Q hs s h p hp => h p R _ (Ext.allocH s hp) (s.free hp) hp ⟨[], upd_same, .nil⟩⟩
def CallN (X : Cx) (fn : Value) (o : List D → Res D) : Prop :=
  ∃ r : List V → Hp → VK → Prop, CallR X fn r ∧ ∀ (vs : List V) (ds : List D) (R H : Hp) (Q : VK) (Ex : XK), RpA X.K R vs ds → Same R H → PostN X.K X.mg Ex R H Q (o ds) → r vs H Q
theorem CallN.cd {fn : Value} {o : List D → Res D} (h : CallN X fn o) : CallD X fn o := by
  obtain ⟨r, h1, h2⟩ := h
  exact ⟨r, h1, fun vs ds R H Q Ex a s q => h2 vs ds R H Q Ex a s q.toN⟩
variable {x : Str} {id T : String} {p : Pos}
theorem dn_callB {o : List D → Res D} (ho : CallN X (.builtin id) o) (hg : Gl X x) (hm : X.mg x = none) (hv : bootBuiltins x = some (.builtin id)) (ha : DA X E (e :: es) ga) (hn : x ≠ "__name__" := by decide) (hdb : (x == ("__debug__" : Str)) = false := by decide)
    (he : starEach (e :: es) X.env = (false, eval e X.env) :: starEach es X.env := by rfl) (hpl : (backTo pos (starEach es X.env)).any (·.1) = false := by rfl) :
    DN X E (.Call (.Name x p) (e :: es) [] pos) (eCall o ga) := by
  obtain ⟨r, hr, q⟩ := ho
  obtain ⟨t, a1, a2⟩ := ha
  exact ⟨_, pe_callB hr hg hm hv a1 hn hdb he hpl, fun σ τ R H Q hs s h => a2 σ τ R H _ hs s (post_bindN h fun d v R1 H1 e1 q1 h1 => q v d R1 H1 Q _ q1 e1.sub h1)⟩
theorem dn_callTy {o : List D → Res D} (ho : CallN X (.type T) o) (hg : Gl X x) (hm : X.mg x = none) (hv : bootBuiltins x = some (.type T)) (ha : DA X E (e :: es) ga) (hn : x ≠ "__name__" := by decide) (hdb : (x == ("__debug__" : Str)) = false := by decide)
    (he : starEach (e :: es) X.env = (false, eval e X.env) :: starEach es X.env := by rfl) (hpl : (backTo pos (starEach es X.env)).any (·.1) = false := by rfl) :
    DN X E (.Call (.Name x p) (e :: es) [] pos) (eCall o ga) := by
  obtain ⟨r, hr, q⟩ := ho
  obtain ⟨t, a1, a2⟩ := ha
  exact ⟨_, pe_callTy hr hg hm hv a1 hn hdb he hpl, fun σ τ R H Q hs s h => a2 σ τ R H _ hs s (post_bindN h fun d v R1 H1 e1 q1 h1 => q v d R1 H1 Q _ q1 e1.sub h1)⟩
theorem cn_list : CallN X (.type "list") listD := by
  refine ⟨_, call_list_of, fun vs ds R H Q Ex r s h => ?_⟩
  match ds, r, h with
  | [.list ds], r, h =>
    obtain ⟨v, rfl, q⟩ := one_inv r
    cases q with
    | lst h1 q1 => exact ⟨_, _, rfl, .inl (ls_same s h1).sq, fun l hl => new_own q1 s hl h⟩
  | [.tuple ds], r, h =>
    obtain ⟨v, rfl, q⟩ := one_inv r
    cases q with
    | tup h1 q1 => exact ⟨_, _, rfl, .inr (SqT.of (s _ _ h1)), fun l hl => new_own q1 s hl h⟩
  | [.none], _, h => exact h.elim
  | [.bool _], _, h => exact h.elim
  | [.int _], _, h => exact h.elim
  | [.str _], _, h => exact h.elim
  | [.dict _], _, h => exact h.elim
  | [], _, h => exact h.elim
  | d1 :: _ :: _, _, h => cases d1 <;> exact h.elim

variable {R0 H0 R H : Hp} {σ : SS} {τ : L2.St} {Dn : Ends} {pos' : Pos}
def sNew (i : Nat) (f : DS → Res D) : SF := fun σ => thenR (f (mask σ)) σ fun d => .ok .nx (σ.set i (some (.ow d)))
def flatC : D → Bool
  | .list ds => flatA ds
  | _ => false
def sNewV (i : Nat) (f : DS → Res D) : SF := fun σ => thenR (f (view σ)) σ fun d => if flatC d then .ok .nx (σ.set i (some (.ow d))) else .stuck
theorem RO.notOwned (I : RO X.K R0 H0 R H σ τ) {a : Addr} (h : H a = none) : ¬ owned σ τ a := fun z => by
  obtain ⟨d, q⟩ := (I.ownd z).2.2
  obtain ⟨o, z1, _⟩ := q.some
  rw [h] at z1; cases z1
theorem ds_new (i : Nat) (hN : X.N.Nodup) (hi : X.N[i]? = some x) (hx : Loc X.env.scope x) (he : DN X E e f) (hs : swapsWith e (some (.Name x pos')) pos.line X.env = pure false := by rfl) (hf : X.fn x = true ∨ X.env.scope.names.lookup x = some .local := by first | exact .inl rfl | exact .inr rfl | assumption) :
    DS1 X E (.Assign [.Name x pos'] e pos) (sNew i f) := by
  obtain ⟨t, e1, e2⟩ := he
  refine ⟨_, ps_set hN hi hx e1 hs hf, fun R0 H0 σ τ R H Dn I q => e2 (mask σ) τ R H _ I.mask I.ext.sub ?_⟩
  unfold sNew at q
  cases z : f (mask σ) with
  | ok d =>
    rw [z] at q
    refine fun a R' H' x n1 n2 w => q R' H' _ ((I.step x).putO n1 (I.ext.hh.free n2) w ?_)
    exact RO.notOwned I n2
  | exc x => rw [z] at q; exact fun c dx H' s y => q c dx R H' τ (I.same s) (y.back I.ext.hh)
  | stuck => rw [z] at q; exact q
theorem ds_newV (i : Nat) (hN : X.N.Nodup) (hi : X.N[i]? = some x) (hx : Loc X.env.scope x) (he : DN X E e f) (hs : swapsWith e (some (.Name x pos')) pos.line X.env = pure false := by rfl) (hf : X.fn x = true ∨ X.env.scope.names.lookup x = some .local := by first | exact .inl rfl | exact .inr rfl | assumption) :
    DS1 X E (.Assign [.Name x pos'] e pos) (sNewV i f) := by
  obtain ⟨t, e1, e2⟩ := he
  refine ⟨_, ps_set hN hi hx e1 hs hf, fun R0 H0 σ τ R H Dn I q => e2 (view σ) τ (full σ τ R H) H _ I.viewed I.fullH ?_⟩
  unfold sNewV at q
  cases z : f (view σ) with
  | ok d =>
    rw [z] at q
    have q' : SPost X E R0 H0 Dn (if flatC d then .ok .nx (σ.set i (some (.ow d))) else .stuck) := q
    by_cases hf : flatC d = true
    · rw [if_pos hf] at q'
      refine fun a R' H' x n1 n2 w => ?_
      obtain ⟨J, tu⟩ := I.stepF x
      have na : ¬ owned σ τ a := RO.notOwned I n2
      refine q' _ H' _ (J.putO (by rw [hide_n na]; exact n1) (I.ext.hh.free n2) ?_ na)
      cases d with
      | list ds =>
        obtain ⟨vs, w1, w2⟩ := w
        exact ⟨vs, w1, RpA.flat tu w2 hf⟩
      | _ => cases hf
    · rw [if_neg hf] at q'; exact q'.elim
  | exc x => rw [z] at q; exact fun c dx H' s y => q c dx R H' τ (I.same s) (y.back I.ext.hh)
  | stuck => rw [z] at q; exact q

abbrev MF := List D → List D → Option (D × List D)
def MtD (X : Cx) (id : String) (m : MF) : Prop :=
  ∃ r : V → List V → Hp → VK → Prop, MtM X id r ∧ ∀ (a : Addr) (xs : List V) (c : List D) (vs : List V) (ds : List D) (d : D) (c' : List D) (R H : Hp) (Q : VK), H a = some (.lst xs) → R a = none → RpA X.K R xs c → RpA X.K R vs ds → Same R H → m c ds = some (d, c') →
    (∀ v ys, RpA X.K R ys c' → Rp X.K R v d → Q v (upd H a (.lst ys))) → r (.ref a) vs H Q
def mutK (i : Nat) (σ : SS) (r : Option (D × List D)) (k : D → SS → SR) : SR := match r with
  | some (d, c') => k d (σ.set i (some (.ow (.list c'))))
  | none => .stuck
def ownL (i : Nat) (σ : SS) (k : List D → SR) : SR := match σ[i]? with
  | some (some (.ow (.list c))) => k c
  | _ => .stuck
def sMut (i : Nat) (m : MF) (g : DS → Res (List D)) : SF := fun σ => ownL i σ fun c => thenR (g (mask σ)) σ fun ds => mutK i σ (m c ds) fun _ σ' => .ok .nx σ'
def sMutV (i : Nat) (m : MF) (g : DS → Res (List D)) : SF := fun σ => ownL i σ fun c => thenR (g (view σ)) σ fun ds => if flatA ds then mutK i σ (m c ds) fun _ σ' => .ok .nx σ' else .stuck
def sMut0 (i : Nat) (m : MF) : SF := fun σ => ownL i σ fun c => mutK i σ (m c []) fun _ σ' => .ok .nx σ'
def sMutS0 (j i : Nat) (m : MF) : SF := fun σ => ownL i σ fun c => mutK i σ (m c []) fun d σ' => .ok .nx (σ'.set j (some (.sh d)))
def sMutS (j i : Nat) (m : MF) (g : DS → Res (List D)) : SF := fun σ => ownL i σ fun c => thenR (g (mask σ)) σ fun ds => mutK i σ (m c ds) fun d σ' => .ok .nx (σ'.set j (some (.sh d)))
theorem ownL_run {i : Nat} {k : List D → SR} (I : RO X.K R0 H0 R H σ τ) (q : SPost X E R0 H0 Dn (ownL i σ k)) : ∃ a xs c, σ[i]? = some (some (.ow (.list c))) ∧ τ[i]? = some (some (.ref a)) ∧ H a = some (.lst xs) ∧ R a = none ∧ RpA X.K R xs c ∧ SPost X E R0 H0 Dn (k c) := by
  unfold ownL at q
  split at q
  · rename_i c hc
    obtain ⟨a, h1, h2, h3, xs, h4, h5⟩ := I.ow i _ hc
    exact ⟨a, xs, c, hc, h1, h4, h2, h5, q⟩
  · exact q.elim
theorem mutK_run {i : Nat} {m : MF} {k : D → SS → SR} {id : String} {a : Addr} {vs : List V} {c ds : List D} {T : VK} {r : V → List V → Hp → VK → Prop}
    (hm : ∀ (a : Addr) (xs : List V) (c : List D) (vs : List V) (ds : List D) (d : D) (c' : List D) (R H : Hp) (Q : VK), H a = some (.lst xs) → R a = none → RpA X.K R xs c → RpA X.K R vs ds → Same R H → m c ds = some (d, c') →
      (∀ v ys, RpA X.K R ys c' → Rp X.K R v d → Q v (upd H a (.lst ys))) → r (.ref a) vs H Q)
    (I : RO X.K R0 H0 R H σ τ) (h1 : σ[i]? = some (some (.ow (.list c)))) (h2 : τ[i]? = some (some (.ref a))) (ra : RpA X.K R vs ds) (q : SPost X E R0 H0 Dn (mutK i σ (m c ds) k))
    (z : ∀ d v σ' H', RO X.K R0 H0 R H' σ' τ → Rp X.K R v d → SPost X E R0 H0 Dn (k d σ') → T v H') : r (.ref a) vs H T := by
  obtain ⟨b, q1, q2, q3, xs, q4, q5⟩ := I.ow i _ h1
  rw [h2] at q1; cases q1
  unfold mutK at q
  split at q
  · rename_i d c' hmc
    exact hm a xs c vs ds d c' R H T q4 q2 q5 ra I.ext.sub hmc fun v ys w1 w2 => z d v _ _ (I.mut (d := .list c') h1 h2 ⟨ys, upd_same, w1⟩) w2 q
  · exact q.elim
theorem tyL {H : Hp} {a : Addr} {xs : List V} (h : H a = some (.lst xs)) : tyV X.K "list" (.ref a) H := .inl ⟨rfl, _, SqL.of h⟩
variable {name : Str} {apos np : Pos} {m : MF} {i j : Nat} {y : Str} {py : Pos}
abbrev PeM (X : Cx) (o : Expr) (name : Str) (id : String) (apos : Pos) (es : List Expr) (pos : Pos) : Prop :=
  ∀ {r : V → List V → Hp → VK → Prop} {to : TE} {t : TA}, MtM X id r → PE X o to → PA X es t → PE X (.Call (.Attribute o name apos) es [] pos) (tBM X.K "list" r to t)
abbrev PeM0 (X : Cx) (o : Expr) (name : Str) (id : String) (apos : Pos) (pos : Pos) : Prop :=
  ∀ {r : V → List V → Hp → VK → Prop} {to : TE}, MtM X id r → PE X o to → PE X (.Call (.Attribute o name apos) [] [] pos) (tBM0 X.K "list" r to)
abbrev IsV (X : Cx) (i : Nat) (x : Str) (np : Pos) : Prop := PE X (.Name x np) (tVar i)
theorem isv (i : Nat) (hN : X.N[i]? = some x := by rfl) (hv : Vis X.env.scope x := by first | exact Or.inl rfl | exact Or.inr (Or.inl rfl) | exact Or.inr (Or.inr rfl)) (hd : (x == ("__debug__" : Str)) = false := by decide)
    (hcd : (x == ("__classdict__" : Str)) = false := by decide) : IsV X i x np := pe_var hN hv hd hcd
theorem ds_mut (i : Nat) (hv : IsV X i x np) (hm : MtD X id m) (hpe : PeM X (.Name x np) name id apos (e :: es) pos) (ha : DA X E (e :: es) ga)
    (hs : swapsWith (.Call (.Attribute (.Name x np) name apos) (e :: es) [] pos) none pos'.line X.env = pure false := by rfl) : DS1 X E (.Expr (.Call (.Attribute (.Name x np) name apos) (e :: es) [] pos) pos') (sMut i m ga) := by
  obtain ⟨r, m1, m2⟩ := hm
  obtain ⟨t, a1, a2⟩ := ha
  refine ⟨_, ps_expr (hpe m1 hv a1) hs, fun R0 H0 σ τ R H Dn I q => ?_⟩
  obtain ⟨a, xs, c, h1, h2, h3, h4, h5, q⟩ := ownL_run I q
  refine ⟨_, h2, tyL h3, a2 (mask σ) τ R H _ I.mask I.ext.sub (post_mask I q fun ds vs R' H' J y z => ?_)⟩
  exact mutK_run (id := id) m2 J h1 h2 y z fun d v σ' H2 J2 w1 w2 => w2 R' H2 τ J2
theorem ds_mutV (i : Nat) (hv : IsV X i x np) (hm : MtD X id m) (hpe : PeM X (.Name x np) name id apos (e :: es) pos) (ha : DA X E (e :: es) ga)
    (hs : swapsWith (.Call (.Attribute (.Name x np) name apos) (e :: es) [] pos) none pos'.line X.env = pure false := by rfl) : DS1 X E (.Expr (.Call (.Attribute (.Name x np) name apos) (e :: es) [] pos) pos') (sMutV i m ga) := by
  obtain ⟨r, m1, m2⟩ := hm
  obtain ⟨t, a1, a2⟩ := ha
  refine ⟨_, ps_expr (hpe m1 hv a1) hs, fun R0 H0 σ τ R H Dn I q => ?_⟩
  obtain ⟨a, xs, c, h1, h2, h3, h4, h5, q⟩ := ownL_run I q
  refine ⟨_, h2, tyL h3, a2 (view σ) τ (full σ τ R H) H _ I.viewed I.fullH (post_viewA I q fun ds vs R' H' J y z => ?_)⟩
  exact mutK_run (id := id) m2 J h1 h2 y z fun d v σ' H2 J2 w1 w2 => w2 R' H2 τ J2
theorem ds_mut0 (i : Nat) (hv : IsV X i x np) (hm : MtD X id m) (hpe : PeM0 X (.Name x np) name id apos pos)
    (hs : swapsWith (.Call (.Attribute (.Name x np) name apos) [] [] pos) none pos'.line X.env = pure false := by rfl) : DS1 X E (.Expr (.Call (.Attribute (.Name x np) name apos) [] [] pos) pos') (sMut0 i m) := by
  obtain ⟨r, m1, m2⟩ := hm
  refine ⟨_, ps_expr (hpe m1 hv) hs, fun R0 H0 σ τ R H Dn I q => ?_⟩
  obtain ⟨a, xs, c, h1, h2, h3, h4, h5, q⟩ := ownL_run I q
  exact ⟨_, h2, tyL h3, mutK_run (id := id) m2 I h1 h2 .nil q fun d v σ' H2 J2 w1 w2 => w2 R H2 τ J2⟩
theorem ds_mutS0 (j i : Nat) (hN : X.N.Nodup) (hj : X.N[j]? = some y) (hy : Loc X.env.scope y) (hv : IsV X i x np) (hm : MtD X id m) (hpe : PeM0 X (.Name x np) name id apos pos)
    (hs : swapsWith (.Call (.Attribute (.Name x np) name apos) [] [] pos) (some (.Name y py)) pos'.line X.env = pure false := by rfl) (hf : X.fn y = true ∨ X.env.scope.names.lookup y = some .local := by first | exact .inl rfl | exact .inr rfl | assumption) :
    DS1 X E (.Assign [.Name y py] (.Call (.Attribute (.Name x np) name apos) [] [] pos) pos') (sMutS0 j i m) := by
  obtain ⟨r, m1, m2⟩ := hm
  refine ⟨_, ps_set hN hj hy (hpe m1 hv) hs hf, fun R0 H0 σ τ R H Dn I q => ?_⟩
  obtain ⟨a, xs, c, h1, h2, h3, h4, h5, q⟩ := ownL_run I q
  exact ⟨_, h2, tyL h3, mutK_run (id := id) m2 I h1 h2 .nil q fun d v σ' H2 J2 w1 w2 => w2 R H2 _ (J2.put w1)⟩
theorem ds_mutS (j i : Nat) (hN : X.N.Nodup) (hj : X.N[j]? = some y) (hy : Loc X.env.scope y) (hv : IsV X i x np) (hm : MtD X id m) (hpe : PeM X (.Name x np) name id apos (e :: es) pos) (ha : DA X E (e :: es) ga)
    (hs : swapsWith (.Call (.Attribute (.Name x np) name apos) (e :: es) [] pos) (some (.Name y py)) pos'.line X.env = pure false := by rfl) (hf : X.fn y = true ∨ X.env.scope.names.lookup y = some .local := by first | exact .inl rfl | exact .inr rfl | assumption) :
    DS1 X E (.Assign [.Name y py] (.Call (.Attribute (.Name x np) name apos) (e :: es) [] pos) pos') (sMutS j i m ga) := by
  obtain ⟨r, m1, m2⟩ := hm
  obtain ⟨t, a1, a2⟩ := ha
  refine ⟨_, ps_set hN hj hy (hpe m1 hv a1) hs hf, fun R0 H0 σ τ R H Dn I q => ?_⟩
  obtain ⟨a, xs, c, h1, h2, h3, h4, h5, q⟩ := ownL_run I q
  refine ⟨_, h2, tyL h3, a2 (mask σ) τ R H _ I.mask I.ext.sub (post_mask I q fun ds vs R' H' J y z => ?_)⟩
  exact mutK_run (id := id) m2 J h1 h2 y z fun d v σ' H2 J2 w1 w2 => w2 R' H2 _ (J2.put w1)
def appendM : MF := fun c ds => match ds with
  | [d] => if c.length < sizeLine then some (.none, c ++ [d]) else none
  | _ => none
theorem md_append : MtD X "list.append" appendM := by
  refine ⟨_, mt_append, fun a xs c vs ds d c' R H Q hH hR hx hv s hm q => ?_⟩
  match ds, hv, hm with
  | [d1], hv, hm =>
    obtain ⟨v, rfl, r⟩ := one_inv hv
    simp only [appendM] at hm
    by_cases hl : c.length < sizeLine
    · rw [if_pos hl] at hm
      cases hm
      exact ⟨a, xs, v, rfl, rfl, hH, by rw [hx.length]; exact hl, q _ _ (hx.append (.cons r .nil)) Rp.non⟩
    · rw [if_neg hl] at hm; cases hm
  | [], _, hm => cases hm
  | d1 :: _ :: _, _, hm => cases d1 <;> cases hm
def rExtG (K : PySem.W.Frag) : V → List V → Hp → VK → Prop := fun x vs H Q => ∃ l b xs zs, x = .ref l ∧ vs = [.ref b] ∧ H l = some (.lst xs) ∧ LsQ K H b zs ∧ xs.length + zs.length ≤ sizeLine ∧ Q .non (upd H l (.lst (xs ++ zs)))
theorem mt_extG : MtM X "list.extend" (rExtG X.K) := fun pins s σ H x vs v us Q I rx rv h => by
  obtain ⟨l, b, xs, zs, rfl, rfl, hH, hB, hz, q⟩ := h
  cases rx
  obtain ⟨u, rfl, ru⟩ := rv.one
  cases ru
  obtain ⟨z, i1, n, r, hl, e⟩ := I.lstM hH
  obtain ⟨z2, i2, n2, r2, e2⟩ := hB.at I
  have hl2 := r2.length
  have sz : i1.toArray.size + i2.toArray.size ≤ sizeLine := by rw [List.size_toArray, List.size_toArray]; omega
  have nl : ¬ (!i1.toArray.isEmpty && Builtin.List.listTooLong (i1.toArray.size + i2.toArray.size)) = true := by
    rw [notLongL sz, Bool.and_false]; exact Bool.false_ne_true
  refine call_meets PySem.F.slot_list_extend ⟨_, e, rfl⟩ PySem.F.entry_list_extend (PySem.F.args_list_extend_2 _ _)
    (AutoSeq1.list_extend_list_list_0 l i1.toArray n b i2.toArray n2 nl (by rw [List.size_toArray]; omega) (by omega)) ⟨e, e2, ?_⟩
  refine ⟨.non, _, I.lset (its' := i1 ++ i2) hH e (by simp) (r.append r2) ?_, rfl, q⟩
  rw [List.length_append]; omega
def extendM : MF := fun c ds => match ds with
  | [.list es] => if c.length + es.length ≤ sizeLine then some (.none, c ++ es) else none
  | _ => none
theorem md_extend : MtD X "list.extend" extendM := by
  refine ⟨_, mt_extG, fun a xs c vs ds d c' R H Q hH hR hx hv s hm q => ?_⟩
  match ds, hv, hm with
  | [.list es], hv, hm =>
    obtain ⟨v, rfl, r⟩ := one_inv hv
    simp only [extendM] at hm
    by_cases hl : c.length + es.length ≤ sizeLine
    · rw [if_pos hl] at hm
      cases hm
      cases r with
      | lst g1 g2 => exact ⟨a, _, xs, _, rfl, rfl, hH, ls_same s g1, by rw [hx.length, g2.length]; exact hl, q _ _ (hx.append g2) Rp.non⟩
    · rw [if_neg hl] at hm; cases hm
  | [.none], _, hm => cases hm
  | [.bool _], _, hm => cases hm
  | [.int _], _, hm => cases hm
  | [.str _], _, hm => cases hm
  | [.tuple _], _, hm => cases hm
  | [.dict _], _, hm => cases hm
  | [], _, hm => cases hm
  | d1 :: _ :: _, _, hm => cases d1 <;> cases hm
def popM : MF := fun c ds => match ds with
  | [] => match c[c.length - 1]? with
    | some d => some (d, c.dropLast)
    | none => none
  | _ => none
theorem md_pop : MtD X "list.pop" popM := by
  refine ⟨_, mt_pop, fun a xs c vs ds d c' R H Q hH hR hx hv s hm q => ?_⟩
  match ds, hv, hm with
  | [], hv, hm =>
    cases hv
    simp only [popM] at hm
    split at hm
    · rename_i d' hd
      cases hm
      obtain ⟨v, z1, z2⟩ := hx.get hd
      exact ⟨a, xs, v, rfl, rfl, hH, by rw [hx.length]; exact z1, q _ _ hx.dropLast z2⟩
    · cases hm
  | _ :: _, _, hm => cases hm
def clearM : MF := fun _ ds => match ds with
  | [] => some (.none, [])
  | _ => none
theorem md_clear : MtD X "list.clear" clearM := by
  refine ⟨_, mt_clear, fun a xs c vs ds d c' R H Q hH hR hx hv s hm q => ?_⟩
  match ds, hv, hm with
  | [], hv, hm =>
    cases hv
    cases hm
    exact ⟨a, xs, rfl, rfl, hH, q _ _ .nil Rp.non⟩
  | _ :: _, _, hm => cases hm
end
end E3

namespace E3
open PySem PySem.Spec PyProof.Rows L2

def intsOf : List D → Option (List Int)
  | [] => some []
  | .int i :: r => (intsOf r).map (i :: ·)
  | _ :: _ => none
def keyOf : D → Option (List Int)
  | .tuple xs => intsOf xs
  | _ => none
theorem intsOf_map : ∀ ns : List Int, intsOf (ns.map .int) = some ns
  | [] => rfl
  | n :: r => by
    show (intsOf (r.map .int)).map (n :: ·) = _
    rw [intsOf_map r]; rfl
theorem keyOf_t (ns : List Int) : keyOf (.tuple (ns.map .int)) = some ns := intsOf_map ns
theorem intsOf_inv : ∀ {xs : List D} {ns : List Int}, intsOf xs = some ns → xs = ns.map .int
  | [], _, h => by cases h; rfl
  | .int i :: r, ns, h => by
    have h' : (intsOf r).map (i :: ·) = some ns := h
    cases q : intsOf r with
    | none => rw [q] at h'; cases h'
    | some ms =>
      rw [q] at h'
      cases h'
      rw [intsOf_inv q]; rfl
  | .none :: _, _, h => by cases h
  | .bool _ :: _, _, h => by cases h
  | .str _ :: _, _, h => by cases h
  | .list _ :: _, _, h => by cases h
  | .tuple _ :: _, _, h => by cases h
  | .dict _ :: _, _, h => by cases h
theorem keyOf_inv {d : D} {ns : List Int} (h : keyOf d = some ns) : d = .tuple (ns.map .int) := by
  cases d with
  | tuple xs =>
    have : intsOf xs = some ns := h
    rw [intsOf_inv this]
  | _ => cases h
theorem key_inj {a b : List Int} : (a.map (Sum.inl : Int → Key) = b.map Sum.inl) ↔ a = b := by
  constructor
  · intro h
    induction a generalizing b with
    | nil => cases b with
      | nil => rfl
      | cons _ _ => cases h
    | cons x r ih => cases b with
      | nil => cases h
      | cons y s =>
        rw [List.map_cons, List.map_cons] at h
        injection h with h1 h2
        injection h1 with h1
        rw [h1, ih h2]
  · intro h; rw [h]
def valK (kvs : List (D × D)) (k : List Int) : Option D := (kvs.find? fun p => decide (keyOf p.1 = some k)).map (·.2)
def putKD (kvs : List (D × D)) (k : List Int) (v : D) : List (D × D) :=
  if (kvs.any fun p => decide (keyOf p.1 = some k)) = true then kvs.map (fun p => if keyOf p.1 = some k then (p.1, v) else p) else kvs ++ [(.tuple (k.map .int), v)]
section
variable {K : PySem.W.Frag} {R : Hp}
theorem RpK.any (k : List Int) : ∀ {ks : List (List Key × V)} {kvs : List (D × D)}, RpK K R ks kvs → (ks.any fun kv => decide (kv.1 = k.map Sum.inl)) = kvs.any fun p => decide (keyOf p.1 = some k)
  | _, _, .nil => rfl
  | _, _, .cons (k := j) h r => by
    rw [List.any_cons, List.any_cons, RpK.any k r]
    congr 1
    rw [keyOf_t]
    by_cases e : j = k
    · subst e; simp
    · rw [decide_eq_false (fun z => e (key_inj.mp z)), decide_eq_false (fun z => e (Option.some.inj z))]
theorem RpK.val (k : List Int) : ∀ {ks : List (List Key × V)} {kvs : List (D × D)}, RpK K R ks kvs → (∀ d, valK kvs k = some d → ∃ v, valV ks (k.map Sum.inl) = some v ∧ Rp K R v d) ∧ (valK kvs k = none → valV ks (k.map Sum.inl) = none)
  | _, _, .nil => ⟨fun _ h => (by cases h), fun _ => rfl⟩
  | _, _, .cons (k := j) (v := v) (d := d0) (kvs := ks) (ds := ds) h r => by
    have ih := RpK.val k r
    by_cases e : j = k
    · subst e
      have e1 : valK ((.tuple (j.map .int), d0) :: ds) j = some d0 := by simp [valK, List.find?_cons, keyOf_t]
      rw [e1]
      refine ⟨fun d q => ?_, fun q => by cases q⟩
      cases q
      exact ⟨v, valV_pos rfl, h⟩
    · have e1 : valK ((.tuple (j.map .int), d0) :: ds) k = valK ds k := by simp [valK, List.find?_cons, keyOf_t, e]
      rw [e1, valV_neg (fun z => e (key_inj.mp z))]
      exact ih
theorem RpK.length : ∀ {ks : List (List Key × V)} {kvs : List (D × D)}, RpK K R ks kvs → ks.length = kvs.length
  | _, _, .nil => rfl
  | _, _, .cons _ r => by rw [List.length_cons, List.length_cons, r.length]
theorem RpK.snoc {k : List Int} {v : V} {d : D} (q : Rp K R v d) : ∀ {ks : List (List Key × V)} {kvs : List (D × D)}, RpK K R ks kvs → RpK K R (ks ++ [(k.map Sum.inl, v)]) (kvs ++ [(.tuple (k.map .int), d)])
  | _, _, .nil => .cons q .nil
  | _, _, .cons h r => .cons h (r.snoc q)
theorem RpK.over {k : List Int} {v : V} {d : D} (q : Rp K R v d) : ∀ {ks : List (List Key × V)} {kvs : List (D × D)}, RpK K R ks kvs → RpK K R (ks.map fun kv => if kv.1 = k.map Sum.inl then (kv.1, v) else kv) (kvs.map fun p => if keyOf p.1 = some k then (p.1, d) else p)
  | _, _, .nil => .nil
  | _, _, .cons (k := j) h r => by
    rw [List.map_cons, List.map_cons]
    by_cases e : j = k
    · subst e
      rw [if_pos rfl, if_pos (keyOf_t j)]
      exact .cons q (r.over q)
    · rw [if_neg (fun z => e (key_inj.mp z)), if_neg (fun z => e (Option.some.inj ((keyOf_t j).symm.trans z)))]
      exact .cons h (r.over q)
theorem RpK.put {k : List Int} {v : V} {d : D} {ks : List (List Key × V)} {kvs : List (D × D)} (r : RpK K R ks kvs) (q : Rp K R v d) : RpK K R (putK ks (k.map Sum.inl) v) (putKD kvs k d) := by
  unfold putK putKD
  rw [r.any k]
  split
  · exact r.over q
  · exact r.snoc q
end
section
variable {X : Cx} {E : WX}
def rDIn (neg : Bool) : R2 := fun x y H Q => ∃ a o, y = .ref a ∧ DGet H a x o ∧ Q (.bl (if neg then !o.isSome else o.isSome)) H
theorem op_dIn (hu : X.A.units + 1 < cLine) : OpR X (compareOp .In) (rDIn false) := fun pins s σ H x y v u Q I rx ry h => by
  obtain ⟨a, o, rfl, g, q⟩ := h
  obtain rfl : u = Value.ref a := ry
  exact d_in hu I g rx fun s3 I3 => ⟨.bl o.isSome, H, I3, rfl, q⟩
theorem op_dNotIn (hu : X.A.units + 1 < cLine) : OpR X (compareOp .NotIn) (rDIn true) := fun pins s σ H x y v u Q I rx ry h => by
  obtain ⟨a, o, rfl, g, q⟩ := h
  obtain rfl : u = Value.ref a := ry
  exact d_notIn hu I g rx fun s3 I3 => ⟨.bl (!o.isSome), H, I3, rfl, q⟩
theorem key_run {v : V} {d : D} {ns : List Int} {R H : Hp} (r : Rp X.K R v d) (s : Same R H) (h : keyOf d = some ns) : ∃ b, v = .ref b ∧ H b = some (.tup ((ns.map Sum.inl).map kV)) := by
  have e := keyOf_inv h
  subst e
  cases r with
  | tup h1 h2 =>
    refine ⟨_, rfl, ?_⟩
    rw [s _ _ h1, h2.ints_inv, List.map_map]
    rfl
theorem dget_run {v : V} {d : D} {ns : List Int} {R H : Hp} {a : Addr} {ks : List (List Key × V)} (r : Rp X.K R v d) (s : Same R H) (h : keyOf d = some ns) (hd : Rd R a (.dT ks)) : DGet H a v (valV ks (ns.map Sum.inl)) := by
  obtain ⟨b, rfl, hb⟩ := key_run r s h
  exact .inr ⟨ks, ns.map Sum.inl, b, rd_same s hd, rfl, hb, rfl⟩
def inG : D → D → Res D
  | x, .dict kvs => if obK kvs then .stuck else match keyOf x with
    | some ns => .ok (.bool (valK kvs ns).isSome)
    | none => .stuck
  | x, y => inD x y
def notInG : D → D → Res D
  | x, .dict kvs => if obK kvs then .stuck else match keyOf x with
    | some ns => .ok (.bool (!(valK kvs ns).isSome))
    | none => .stuck
  | x, y => notInD x y
theorem val_some {ks : List (List Key × V)} {kvs : List (D × D)} {ns : List Int} {K : PySem.W.Frag} {R : Hp} (r : RpK K R ks kvs) : (valV ks (ns.map Sum.inl)).isSome = (valK kvs ns).isSome := by
  have q := r.val ns
  cases z : valK kvs ns with
  | none => rw [q.2 z]; rfl
  | some d =>
    obtain ⟨v, e, _⟩ := q.1 d z
    rw [e]; rfl
theorem inG_dict {x : D} {kvs : List (D × D)} {ns : List Int} (ho : obK kvs = false) (hk : keyOf x = some ns) : inG x (.dict kvs) = .ok (.bool (valK kvs ns).isSome) := by
  simp only [inG, ho, hk, Bool.false_eq_true, if_false]
theorem notInG_dict {x : D} {kvs : List (D × D)} {ns : List Int} (ho : obK kvs = false) (hk : keyOf x = some ns) : notInG x (.dict kvs) = .ok (.bool (!(valK kvs ns).isSome)) := by
  simp only [notInG, ho, hk, Bool.false_eq_true, if_false]
theorem ob_put {kvs : List (D × D)} (k : List Int) (v : D) (ho : obK kvs = false) : obK (putKD kvs k v) = false := by
  unfold putKD
  split
  · cases kvs with
    | nil => rfl
    | cons p r =>
      obtain ⟨p1, p2⟩ := p
      cases p1 <;> first | (simp only [List.map_cons]; split <;> rfl) | (cases ho)
  · cases kvs with
    | nil => rfl
    | cons p r =>
      obtain ⟨p1, p2⟩ := p
      cases p1 <;> first | rfl | (cases ho)
theorem od_inG (hu : X.A.units + 65 < cLine) : OpD X (compareOp .In) inG := by
  obtain ⟨r, h1, h2⟩ := od_in (X := X) hu
  refine ⟨_, OpR.or h1 (op_dIn (by omega)), fun v w x y R H Q Ex rx ry s h => ?_⟩
  cases ry with
  | dT g1 g2 =>
    simp only [inG, g2.noOb, Bool.false_eq_true, if_false] at h
    split at h
    · rename_i ns hk
      refine .inr ⟨_, _, rfl, dget_run rx s hk g1, ?_⟩
      show Q (.bl (valV _ _).isSome) H
      rw [val_some g2]
      exact Post.now s (Rp.bl _) h
    · exact h.elim
  | lst g1 g2 => exact .inl (h2 _ _ _ _ R H Q Ex rx (.lst g1 g2) s (by cases x <;> exact h))
  | tup g1 g2 => exact .inl (h2 _ _ _ _ R H Q Ex rx (.tup g1 g2) s (by cases x <;> exact h))
  | ob g1 g2 => cases g1 <;> exact h.elim
  | _ => cases x <;> exact h.elim
theorem od_notInG (hu : X.A.units + 65 < cLine) : OpD X (compareOp .NotIn) notInG := by
  obtain ⟨r, h1, h2⟩ := od_notIn (X := X) hu
  refine ⟨_, OpR.or h1 (op_dNotIn (by omega)), fun v w x y R H Q Ex rx ry s h => ?_⟩
  cases ry with
  | dT g1 g2 =>
    simp only [notInG, g2.noOb, Bool.false_eq_true, if_false] at h
    split at h
    · rename_i ns hk
      refine .inr ⟨_, _, rfl, dget_run rx s hk g1, ?_⟩
      show Q (.bl (!(valV _ _).isSome)) H
      rw [val_some g2]
      exact Post.now s (Rp.bl _) h
    · exact h.elim
  | lst g1 g2 => exact .inl (h2 _ _ _ _ R H Q Ex rx (.lst g1 g2) s (by cases x <;> exact h))
  | tup g1 g2 => exact .inl (h2 _ _ _ _ R H Q Ex rx (.tup g1 g2) s (by cases x <;> exact h))
  | ob g1 g2 => cases g1 <;> exact h.elim
  | _ => cases x <;> exact h.elim
variable {a b c e o i value : Expr} {f g k : DS → Res D} {pos pos' : Pos}
def dgetD : D → D → Res D
  | .dict kvs, k => if obK kvs then .stuck else match keyOf k with
    | some ns => optR (valK kvs ns)
    | none => .stuck
  | _, _ => .stuck
theorem de_dget (hu : X.A.units + 65 < cLine) (ho : DE X E o f) (hi : DE X E i g) (hs : NoSl i := by exact fun _ _ => rfl) : DE X E (.Subscript o i pos) (e2 dgetD f g) := by
  obtain ⟨ta, a1, a2⟩ := ho
  obtain ⟨tb, b1, b2⟩ := hi
  refine ⟨_, pe_dget (by omega) a1 b1 hs, fun σ τ R H Q hs s h => ?_⟩
  refine a2 σ τ R H _ hs s (post_bind s h fun x v R1 H1 e1 q1 h1 => ?_)
  refine b2 σ τ R1 H1 _ (hs.mono e1.rr) e1.sub (post_bind e1.sub h1 fun y w R2 H2 e2 q2 h2 => ?_)
  have q1' := q1.mono e2.rr
  cases q1' with
  | dT g1 g2 =>
    simp only [dgetD, g2.noOb, Bool.false_eq_true, if_false] at h2
    split at h2
    · rename_i ns hk
      have r := g2.val ns
      cases z : valK _ ns with
      | none => rw [z] at h2; exact h2.elim
      | some d =>
        rw [z] at h2
        obtain ⟨v, z1, z2⟩ := r.1 d z
        exact ⟨_, v, rfl, by rw [← z1]; exact dget_run q2 e2.sub hk g1, Post.now e2.sub z2 h2⟩
    · exact h2.elim
  | ob g1 g2 => cases g1 <;> exact h2.elim
  | _ => exact h2.elim
theorem dget_dict {x : D} {kvs : List (D × D)} {ns : List Int} (ho : obK kvs = false) (hk : keyOf x = some ns) : dgetD (.dict kvs) x = optR (valK kvs ns) := by
  simp only [dgetD, ho, hk, Bool.false_eq_true, if_false]
def ownD (i : Nat) (σ : SS) (k : List (D × D) → SR) : SR := match σ[i]? with
  | some (some (.ow (.dict c))) => k c
  | _ => .stuck
def putS (i : Nat) (σ : SS) (kvs : List (D × D)) (k v : D) : SR := match keyOf k with
  | some ns => if kvs.length < sizeLine then .ok .nx (σ.set i (some (.ow (.dict (putKD kvs ns v))))) else .stuck
  | none => .stuck
def sPut (i : Nat) (fk fv : DS → Res D) : SF := fun σ => ownD i σ fun kvs => thenR (fv (mask σ)) σ fun v => thenR (fk (mask σ)) σ fun k => putS i σ kvs k v
def sPutV (i : Nat) (fk fv : DS → Res D) : SF := fun σ => ownD i σ fun kvs => thenR (fv (view σ)) σ fun v => if flat v then thenR (fk (view σ)) σ fun k => if flat k then putS i σ kvs k v else .stuck else .stuck
variable {R0 H0 R H : Hp} {σ : SS} {τ : L2.St} {Dn : Ends} {x : Str} {np : Pos} {fk fv : DS → Res D}
theorem ownD_run {i : Nat} {k : List (D × D) → SR} (I : RO X.K R0 H0 R H σ τ) (q : SPost X E R0 H0 Dn (ownD i σ k)) : ∃ a c, σ[i]? = some (some (.ow (.dict c))) ∧ τ[i]? = some (some (.ref a)) ∧ SPost X E R0 H0 Dn (k c) := by
  unfold ownD at q
  split at q
  · rename_i c hc
    obtain ⟨a, h1, _⟩ := I.ow i _ hc
    exact ⟨a, c, hc, h1, q⟩
  · exact q.elim
theorem putS_run {j : Nat} {dk dv : D} {k v : V} {a : Addr} {kvs : List (D × D)} (hc : σ[j]? = some (some (.ow (.dict kvs)))) (h1 : τ[j]? = some (some (.ref a))) (I : RO X.K R0 H0 R H σ τ) (rk : Rp X.K R k dk) (rv : Rp X.K R v dv) (q : SPost X E R0 H0 Dn (putS j σ kvs dk dv)) :
    ∃ H4, DPut H a k v H4 ∧ Dn.nx τ H4 := by
  obtain ⟨a', h1', h2, h3, ks, h4, h5⟩ := I.ow j _ hc
  rw [h1] at h1'; cases h1'
  unfold putS at q
  split at q
  · rename_i ns hk
    split at q
    · rename_i hl
      obtain ⟨b, rfl, hb⟩ := key_run rk I.ext.sub hk
      exact ⟨_, DPut.t h4 hb (by rw [h5.length]; exact hl), q R _ τ (I.mut (d := .dict (putKD kvs ns dv)) hc h1 ⟨_, upd_same, h5.put rv⟩)⟩
    · exact q.elim
  · exact q.elim
theorem ds_put (j : Nat) (hu : X.A.units + 65 < cLine) (hv : IsV X j x np) (hk : DE X E i fk) (hval : DE X E value fv) (hs : swapsWith value (some (.Subscript (.Name x np) i pos')) pos.line X.env = pure false := by rfl) :
    DS1 X E (.Assign [.Subscript (.Name x np) i pos'] value pos) (sPut j fk fv) := by
  obtain ⟨ta, a1, a2⟩ := hk
  obtain ⟨tb, b1, b2⟩ := hval
  refine ⟨_, ps_dput (by omega) hv a1 b1 hs, fun R0 H0 σ τ R H Dn I q => ?_⟩
  obtain ⟨a, kvs, hc, h1, q⟩ := ownD_run I q
  refine b2 (mask σ) τ R H _ I.mask I.ext.sub (post_mask I q fun dv v R' H' J y z => ⟨_, h1, ?_⟩)
  refine a2 (mask σ) τ R' H' _ J.mask J.ext.sub ?_
  have : SPost X E R0 H0 Dn (thenR (fk (mask σ)) σ fun k => putS j σ kvs k dv) := z
  cases w : fk (mask σ) with
  | ok dk =>
    rw [w] at this
    intro k R2 H2 e2 q2
    obtain ⟨H4, w1, w2⟩ := putS_run hc h1 (J.step e2) q2 (y.mono e2.rr) this
    exact ⟨a, H4, rfl, w1, w2⟩
  | exc ex => rw [w] at this; exact fun c dx H2 s y2 => this c dx R' H2 τ (J.same s) (y2.back J.ext.hh)
  | stuck => rw [w] at this; exact this
theorem ds_putV (j : Nat) (hu : X.A.units + 65 < cLine) (hv : IsV X j x np) (hk : DE X E i fk) (hval : DE X E value fv) (hs : swapsWith value (some (.Subscript (.Name x np) i pos')) pos.line X.env = pure false := by rfl) :
    DS1 X E (.Assign [.Subscript (.Name x np) i pos'] value pos) (sPutV j fk fv) := by
  obtain ⟨ta, a1, a2⟩ := hk
  obtain ⟨tb, b1, b2⟩ := hval
  refine ⟨_, ps_dput (by omega) hv a1 b1 hs, fun R0 H0 σ τ R H Dn I q => ?_⟩
  obtain ⟨a, kvs, hc, h1, q⟩ := ownD_run I q
  refine b2 (view σ) τ (full σ τ R H) H _ I.viewed I.fullH (post_view I q fun dv v R' H' J y z => ⟨_, h1, ?_⟩)
  refine a2 (view σ) τ (full σ τ R' H') H' _ J.viewed J.fullH ?_
  have z' : SPost X E R0 H0 Dn (thenR (fk (view σ)) σ fun k => if flat k then putS j σ kvs k dv else .stuck) := z
  cases w : fk (view σ) with
  | ok dk =>
    rw [w] at z'
    have z'' : SPost X E R0 H0 Dn (if flat dk then putS j σ kvs dk dv else .stuck) := z'
    intro k R2 H2 e2 q2
    by_cases hf : flat dk = true
    · rw [if_pos hf] at z''
      have e3 : Same R' (hide σ τ R2) := fun b o hb => by
        have nb : ¬ owned σ τ b := fun w => by rw [(J.ownd w).1] at hb; cases hb
        rw [hide_n nb]
        exact e2.rr _ _ (by rw [full_n nb]; exact hb)
      obtain ⟨J2, tu⟩ := J.stepF e2
      obtain ⟨H4, w1, w2⟩ := putS_run hc h1 J2 (Rp.flat tu q2 hf) (y.mono e3) z''
      exact ⟨a, H4, rfl, w1, w2⟩
    · rw [if_neg hf] at z''; exact z''.elim
  | exc ex => rw [w] at z'; exact fun c dx H2 s y2 => z' c dx R' H2 τ (J.same s) (y2.back J.ext.hh)
  | stuck => rw [w] at z'; exact z'
end

def Walk (K : PySem.W.Frag) (J : It) (R : Hp) (ds : List D) : Prop := ∀ R' H' : Hp, Same R R' → Same R' H' →
  (∀ (i : Nat) (d : D), ds[i]? = some d → J.go i H' ∧ ∀ x H'', J.yld i H' x H'' → ∃ R'', Ext R' H' R'' H'' ∧ Rp K R'' x d) ∧ J.stop ds.length H'
structure DI (X : Cx) (E : WX) (tg iter : Expr) (f : DS → Res (List D)) : Prop where
  run : ∃ wi : TI, PI X tg iter wi ∧ ∀ (σ : DS) (τ : L2.St) (R H : Hp) (Rq : It → Hp → Prop), RS X.K R σ τ → Same R H → Post X.K X.mg (xat E τ) (fun R' (J : It) ds => Walk X.K J R' ds) R H Rq (f σ) → wi τ H Rq
structure DR (X : Cx) (E : WX) (tg iter : Expr) (f : DS → Res (List D)) : Prop where
  run : ∃ wi : TI, PI X tg iter wi ∧ ∀ (σ : DS) (τ : L2.St) (R H : Hp) (Rq : It → Hp → Prop), RS X.K R σ τ → Same R H → Post X.K X.mg (xat E τ) (fun _ (J : It) ds => ∀ R', Walk X.K J R' ds) R H Rq (f σ) → wi τ H Rq
section
variable {X : Cx} {E : WX} {tg e iter : Expr} {f : DS → Res D} {pos p : Pos}
theorem DR.di {f : DS → Res (List D)} (h : DR X E tg iter f) : DI X E tg iter f := by
  obtain ⟨wi, h1, h2⟩ := h
  refine ⟨wi, h1, fun σ τ R H Rq hs s q => h2 σ τ R H Rq hs s ?_⟩
  cases z : f σ with
  | ok ds => rw [z] at q; exact fun J R' H' e w => q J R' H' e (w R')
  | exc x => rw [z] at q; exact q
  | stuck => rw [z] at q; exact q
def seqOf : D → Res (List D)
  | .list ds => .ok ds
  | .tuple ds => .ok ds
  | .dict ((.bool false, .str _) :: kvs) => .ok (kvs.map Prod.snd)
  | _ => .stuck
def iSeq (K : PySem.W.Frag) (tl : TE) : TI := fun τ H Rq => tl τ H fun x H1 => ∃ a, x = .ref a ∧ (((∃ xs, SqL K H1 a xs) ∧ Rq (Itl K a) H1) ∨ ((∃ xs, SqT K H1 a xs) ∧ Rq (Itt K a) H1))
theorem pi_seq {tl : TE} (hl : PE X e tl) : PI X tg e (iSeq X.K tl) := by
  refine ⟨fun pins s σ H Rq I h => ?_⟩
  refine thn (hl.run pins s σ H _ I h) fun v s1 ⟨x, H1, I1, r1, a, ea, q⟩ => ?_
  subst ea
  cases r1
  rcases q with ⟨⟨xs, hq⟩, q⟩ | ⟨⟨xs, hq⟩, q⟩
  · obtain ⟨its, rv, pl, hz⟩ := I1.list hq
    refine wpAny_pyIter_list pl.isList ?_
    refine ⟨s1.heap.objs.size, [s1.heap.objs.size], _, _, H1, rfl, I1.kept (t' := s1.toks) fun b o eb => Heap.get?_push_of_some _ eb, turn_list a _, ⟨_, Heap.get?_push_size _ rfl, rfl, rfl⟩, fun b hb => ?_, q⟩
    obtain rfl : b = s1.heap.objs.size := by simpa using hb
    exact I1.fpOk (Nat.le_refl _) (I1.hok.fresh (Nat.le_refl _))
  · obtain ⟨its, rv, pl, hz⟩ := I1.tuple hq
    refine wpAny_pyIter_tuple (show s1.heap.IsTuple a its.toArray from pl) ?_
    refine ⟨s1.heap.objs.size, [s1.heap.objs.size], _, _, H1, rfl, I1.kept (t' := s1.toks) fun b o eb => Heap.get?_push_of_some _ eb, turn_tuple a _, ⟨_, Heap.get?_push_size _ rfl, rfl, rfl⟩, fun b hb => ?_, q⟩
    obtain rfl : b = s1.heap.objs.size := by simpa using hb
    exact I1.fpOk (Nat.le_refl _) (I1.hok.fresh (Nat.le_refl _))
theorem walk_list {K : PySem.W.Frag} {R : Hp} {a : Addr} {xs : List V} {ds : List D} (h : LsQ K R a xs) (q : RpA K R xs ds) : Walk K (Itl K a) R ds := fun R' H' s1 s2 => by
  have hH : SqL K H' a xs := (ls_same s2 (ls_same s1 h)).sq
  refine ⟨fun i d hd => ?_, xs, hH, by rw [q.length]; exact Nat.le_refl _⟩
  obtain ⟨v, z1, z2⟩ := q.get hd
  refine ⟨⟨xs, v, hH, z1⟩, fun x H'' y => ?_⟩
  obtain ⟨rfl, y⟩ := y
  have e := y xs hH
  rw [z1] at e; cases e
  exact ⟨R', Ext.refl s2, z2.mono s1⟩
theorem walk_tupQ {K : PySem.W.Frag} {R : Hp} {a : Addr} {xs : List V} {ds : List D} (h : SqT K R a xs) (q : RpA K R xs ds) : Walk K (Itt K a) R ds := fun R' H' s1 s2 => by
  have hH : SqT K H' a xs := seqT_same s2 (seqT_same s1 h)
  refine ⟨fun i d hd => ?_, xs, hH, by rw [q.length]; exact Nat.le_refl _⟩
  obtain ⟨v, z1, z2⟩ := q.get hd
  refine ⟨⟨xs, v, hH, z1⟩, fun x H'' y => ?_⟩
  obtain ⟨rfl, y⟩ := y
  have e := y xs hH
  rw [z1] at e; cases e
  exact ⟨R', Ext.refl s2, z2.mono s1⟩
theorem walk_tup {K : PySem.W.Frag} {R : Hp} {a : Addr} {xs : List V} {ds : List D} (h : R a = some (.tup xs)) (q : RpA K R xs ds) : Walk K (Itt K a) R ds := walk_tupQ (SqT.of h) q
theorem di_seq (he : DE X E e f) : DI X E tg e (fun σ => (f σ).bind seqOf) := by
  obtain ⟨t, e1, e2⟩ := he
  refine ⟨_, pi_seq e1, fun σ τ R H Rq hs s q => e2 σ τ R H _ hs s (post_bind s q fun d v R1 H1 x1 q1 h1 => ?_)⟩
  cases q1 with
  | lst g1 g2 => exact ⟨_, rfl, .inl ⟨⟨_, (ls_same x1.sub g1).sq⟩, Post.now x1.sub (walk_list g1 g2) h1⟩⟩
  | tup g1 g2 => exact ⟨_, rfl, .inr ⟨⟨_, SqT.of (x1.sub _ _ g1)⟩, Post.now x1.sub (walk_tup g1 g2) h1⟩⟩
  | dT g1 g2 => cases g2 <;> exact h1.elim
  | ob g1 g2 => cases g1 with
    | wt k1 k2 k3 k4 k5 => exact ⟨_, rfl, .inr ⟨⟨_, .inr ⟨_, _, _, k1, k2, k3, k4, k5⟩⟩, Post.now x1.sub (walk_tupQ (.inr ⟨_, _, _, k1, k2, k3, k4, k5⟩) (RpF.wt_inv g2)) h1⟩⟩
    | _ => exact h1.elim
  | _ => exact h1.elim
def rangeD (lo hi : Int) : List D := (List.range (hi - lo).toNat).map fun (i : Nat) => .int (lo + i)
theorem walk_range {K : PySem.W.Frag} (lo hi : Int) (n : Nat) (hn : n = (hi - lo).toNat) (R : Hp) : Walk K (Itr lo n) R (rangeD lo hi) := fun R' H' s1 s2 => by
  subst hn
  have hl : (rangeD lo hi).length = (hi - lo).toNat := by simp [rangeD]
  refine ⟨fun i d hd => ?_, by rw [hl]; exact Nat.le_refl _⟩
  have hi' : i < (hi - lo).toNat := by rw [← hl]; exact (List.getElem?_eq_some_iff.mp hd).1
  refine ⟨hi', fun x H'' y => ?_⟩
  obtain ⟨rfl, rfl⟩ := y
  unfold rangeD at hd
  rw [List.getElem?_map, List.getElem?_range hi'] at hd
  cases hd
  exact ⟨R', Ext.refl s2, Rp.int _⟩
def rng1 : List D → Res (List D)
  | [.int n] => if -(2 ^ 62) ≤ n ∧ n < 2 ^ 62 then .ok (rangeD 0 n) else .stuck
  | _ => .stuck
def rng2 : List D → Res (List D)
  | [.int a, .int b] => if -(2 ^ 62) ≤ a ∧ a < 2 ^ 62 ∧ -(2 ^ 62) ≤ b ∧ b < 2 ^ 62 then .ok (rangeD a b) else .stuck
  | _ => .stuck
variable {a b : Expr} {ga : DS → Res (List D)}
theorem dr_range1 (hg : Gl X "range") (hm : X.mg "range" = none) (ha : DA X E [a] ga) (hs : starEach [a] X.env = [(false, eval a X.env)] := by rfl) : DR X E tg (.Call (.Name "range" p) [a] [] pos) (fun σ => (ga σ).bind rng1) := by
  obtain ⟨t, a1, a2⟩ := ha
  refine ⟨_, pi_range1 hg hm a1 hs, fun σ τ R H Rq hs s q => a2 σ τ R H _ hs s (post_bind s q fun d v R1 H1 x1 q1 h1 => ?_)⟩
  match d, q1, h1 with
  | [.int n], q1, h1 =>
    obtain ⟨v, rfl, r⟩ := one_inv q1
    cases r
    simp only [rng1] at h1
    split at h1
    · rename_i hl
      refine ⟨n, rfl, hl.1, hl.2, Post.now x1.sub (fun R' => ?_) h1⟩
      exact walk_range 0 n _ (by omega) R'
    · exact h1.elim
  | [], _, h1 => exact h1.elim
  | [.none], _, h1 => exact h1.elim
  | [.bool _], _, h1 => exact h1.elim
  | [.str _], _, h1 => exact h1.elim
  | [.list _], _, h1 => exact h1.elim
  | [.tuple _], _, h1 => exact h1.elim
  | [.dict _], _, h1 => exact h1.elim
  | d1 :: _ :: _, _, h1 => cases d1 <;> exact h1.elim
theorem dr_range2 (hg : Gl X "range") (hm : X.mg "range" = none) (ha : DA X E [a, b] ga) (hs : starEach [a, b] X.env = [(false, eval a X.env), (false, eval b X.env)] := by rfl) (hs2 : starEach [b] X.env = [(false, eval b X.env)] := by rfl) :
    DR X E tg (.Call (.Name "range" p) [a, b] [] pos) (fun σ => (ga σ).bind rng2) := by
  obtain ⟨t, a1, a2⟩ := ha
  refine ⟨_, pi_range2 hg hm a1 hs hs2, fun σ τ R H Rq hs s q => a2 σ τ R H _ hs s (post_bind s q fun d v R1 H1 x1 q1 h1 => ?_)⟩
  match d, q1, h1 with
  | [.int n, .int m], q1, h1 =>
    obtain ⟨v, w, rfl, r, r'⟩ := two_inv q1
    cases r
    cases r'
    simp only [rng2] at h1
    split at h1
    · rename_i hl
      exact ⟨n, m, rfl, hl, Post.now x1.sub (fun R' => walk_range n m _ rfl R') h1⟩
    · exact h1.elim
  | [], _, h1 => exact h1.elim
  | [d1], _, h1 => cases d1 <;> exact h1.elim
  | d1 :: d2 :: d3 :: _, _, h1 => cases d1 <;> cases d2 <;> exact h1.elim
  | [.none, _], _, h1 => exact h1.elim
  | [.bool _, _], _, h1 => exact h1.elim
  | [.str _, _], _, h1 => exact h1.elim
  | [.list _, _], _, h1 => exact h1.elim
  | [.tuple _, _], _, h1 => exact h1.elim
  | [.dict _, _], _, h1 => exact h1.elim
  | [.int _, .none], _, h1 => exact h1.elim
  | [.int _, .bool _], _, h1 => exact h1.elim
  | [.int _, .str _], _, h1 => exact h1.elim
  | [.int _, .list _], _, h1 => exact h1.elim
  | [.int _, .tuple _], _, h1 => exact h1.elim
  | [.int _, .dict _], _, h1 => exact h1.elim

def forS (p : GF) (body : SF) : List D → SS → SR
  | [], σ => .ok .nx σ
  | d :: ds, σ => match p d σ with
    | none => .stuck
    | some σ1 => match body σ1 with
      | .ok .nx σ2 => forS p body ds σ2
      | .ok .ct σ2 => forS p body ds σ2
      | .ok .bk σ2 => .ok .nx σ2
      | .ok (.rt v) σ2 => .ok (.rt v) σ2
      | .exc x σ2 => .exc x σ2
      | .stuck => .stuck
def un (H0 R : Hp) : Hp := fun a => match H0 a with
  | some o => some o
  | none => R a
theorem un_l {H0 R : Hp} : Same H0 (un H0 R) := fun a o h => by unfold un; rw [h]
theorem un_none {H0 R : Hp} {a : Addr} : un H0 R a = none ↔ H0 a = none ∧ R a = none := by
  unfold un
  cases H0 a with
  | none => simp
  | some o => simp
theorem un_sub {H0 R H : Hp} (h1 : Same H0 H) (h2 : Same R H) : Same (un H0 R) H := fun a o h => by
  unfold un at h
  cases q : H0 a with
  | none => rw [q] at h; exact h2 _ _ h
  | some o' => rw [q] at h; cases h; exact h1 _ _ q
section
variable {R0 H0 R1 H1 R H : Hp} {σ : SS} {τ : L2.St} {Dn : Ends}
theorem RO.into {K : PySem.W.Frag} (I : RO K R0 H0 R H σ τ) (s1 : Same R0 R1) (s2 : Same R1 R) : RO K R1 (un H0 R1) R H σ τ where
  ext := ⟨s2, I.ext.sub, un_sub I.ext.hh (s2.trans I.ext.sub), fun a o h => by
    cases q : R1 a with
    | some o' => rw [s2 _ _ q] at h; cases h; exact .inl rfl
    | none =>
      refine .inr ?_
      rcases I.ext.new a o h with z | z | z
      · rw [s1 _ _ z] at q; cases q
      · exact .inl (un_none.mpr ⟨z, q⟩)
      · exact .inr z⟩
  sh := I.sh
  ow := fun i d h => by
    obtain ⟨a, h1, h2, h3, h4⟩ := I.ow i d h
    exact ⟨a, h1, h2, un_none.mpr ⟨h3, s2.free h2⟩, h4⟩
  ne := I.ne
  len := I.len
theorem Ext.outof (e1 : Ext R0 H0 R1 H1) (e : Ext R1 (un H0 R1) R H) : Ext R0 H0 R H := ⟨e1.rr.trans e.rr, e.sub, un_l.trans e.hh, fun a o h => by
  rcases e.new a o h with z | z | z
  · exact e1.new a o z
  · exact .inr (.inl (un_none.mp z).1)
  · exact .inr (.inr z)⟩
theorem RO.outof {K : PySem.W.Frag} (e1 : Ext R0 H0 R1 H1) (I : RO K R1 (un H0 R1) R H σ τ) : RO K R0 H0 R H σ τ where
  ext := e1.outof I.ext
  sh := I.sh
  ow := fun i d h => by
    obtain ⟨a, h1, h2, h3, h4⟩ := I.ow i d h
    exact ⟨a, h1, h2, (un_none.mp h3).1, h4⟩
  ne := I.ne
  len := I.len
end
variable {body : List Stmt} {pt : GF} {ix : List Nat} {gb : SF} {it : DS → Res (List D)}
theorem for_run {R0 H0 R1 H1 : Hp} {σ : SS} {τ : L2.St} {Dn : Ends} {J : It} {ds : List D} {tg' : TG} {tb : TS}
    (hg : ∀ (R0 H0 : Hp) (d : D) (v : V) (σ σ' : SS) (τ : L2.St) (R H : Hp) (Q : L2.St → Hp → Prop), RO X.K R0 H0 R H σ τ → Rp X.K R v d → pt d σ = some σ' → (∀ R' H' τ', Same R R' → Wp ix τ τ' → RO X.K R0 H0 R' H' σ' τ' → Q τ' H') → tg' v τ H Q)
    (hb : ∀ (R0 H0 : Hp) (σ : SS) (τ : L2.St) (R H : Hp) (Dn : Ends), RO X.K R0 H0 R H σ τ → SPost X E R0 H0 Dn (gb σ) → tb Dn τ H)
    (I : RO X.K R0 H0 R1 H1 σ τ) (w : Walk X.K J R1 ds) (q : SPost X E R0 H0 Dn (forS pt gb ds σ)) :
    ∃ W : Nat → Nat → L2.St → Hp → Prop, (∃ m, W 0 m τ H1) ∧ ∀ i m τ H, W i m τ H → (J.stop i H ∧ Dn.nx τ H) ∨ (J.go i H ∧ ∃ N : L2.St → Hp → Prop, (∀ τ' H', N τ' H' → ∃ m', m' < m ∧ W (i + 1) m' τ' H') ∧
      ∀ x H', J.yld i H x H' → tg' x τ H' fun τ2 H2 => tb { Dn with nx := N, ct := N, bk := Dn.nx } τ2 H2) := by
  have e1 := I.ext
  refine ⟨fun i m τ H => m = ds.length - i ∧ i ≤ ds.length ∧ ∃ σ R, Same R1 R ∧ RO X.K R0 H0 R H σ τ ∧ SPost X E R0 H0 Dn (forS pt gb (ds.drop i) σ), ⟨ds.length, by simp, Nat.zero_le _, σ, R1, Same.refl _, I, by rw [List.drop_zero]; exact q⟩, ?_⟩
  rintro i m τ H ⟨rfl, hi, σ, R, sR, J1, q1⟩
  obtain ⟨w1, w2⟩ := w R H sR J1.ext.sub
  by_cases hlt : i < ds.length
  · have hd : ds[i]? = some ds[i] := List.getElem?_eq_getElem hlt
    obtain ⟨go, yl⟩ := w1 i _ hd
    rw [List.drop_eq_getElem_cons hlt] at q1
    refine .inr ⟨go, fun τ' H' => ∃ σ' R', Same R1 R' ∧ RO X.K R0 H0 R' H' σ' τ' ∧ SPost X E R0 H0 Dn (forS pt gb (ds.drop (i + 1)) σ'), fun τ' H' ⟨σ', R', a, b, c⟩ => ⟨ds.length - (i + 1), by omega, rfl, hlt, σ', R', a, b, c⟩, fun x H' y => ?_⟩
    obtain ⟨R2, x2, r2⟩ := yl x H' y
    have J2 := J1.step x2
    have sR2 : Same R1 R2 := sR.trans x2.rr
    unfold forS at q1
    split at q1
    · exact q1.elim
    · rename_i σ1 hp
      refine hg R0 H0 _ x σ σ1 τ R2 H' _ J2 r2 hp fun R3 H3 τ3 s3 _ J3 => ?_
      have sR3 : Same R1 R3 := sR2.trans s3
      refine hb R1 (un H0 R1) σ1 τ3 R3 H3 _ (J3.into e1.rr sR3) ?_
      cases z : gb σ1 with
      | ok o σ2 =>
        rw [z] at q1
        cases o with
        | nx => exact fun R4 H4 τ4 J4 => ⟨σ2, R4, J4.ext.rr, J4.outof e1, q1⟩
        | ct => exact fun R4 H4 τ4 J4 => ⟨σ2, R4, J4.ext.rr, J4.outof e1, q1⟩
        | bk => exact fun R4 H4 τ4 J4 => q1 R4 H4 τ4 (J4.outof e1)
        | rt d => exact fun v R4 H4 x4 r4 => q1 v R4 H4 (e1.outof x4) r4
      | exc ex σ2 => rw [z] at q1; exact fun c dx R4 H4 τ4 J4 y4 => q1 c dx R4 H4 τ4 (J4.outof e1) (y4.back un_l)
      | stuck => rw [z] at q1; exact q1
  · have e : i = ds.length := by omega
    subst e
    rw [List.drop_length] at q1
    exact .inl ⟨w2, q1 R H τ J1⟩
def sFor (it : DS → Res (List D)) (p : GF) (body : SF) : SF := fun σ => thenR (it (mask σ)) σ fun ds => forS p body ds σ
theorem ds_for (hp : PassesOwn (model X.prog X.w) X.A X.env X.xe) (hc : X.calm = true) (hi : DI X E tg iter it) (hg : DG X tg ix pt) (hb : DSs X E body gb) (hs : ∀ x, foldedSetIterable iter X.env x = pure x := by intro _; rfl) :
    DS1 X E (.For tg iter body [] pos) (sFor it pt gb) := by
  obtain ⟨wi, i1, i2⟩ := hi
  obtain ⟨tg', g1, g2⟩ := hg
  obtain ⟨tb, b1, b2⟩ := hb
  refine ⟨_, ps_for hp hc i1 g1 b1 hs, fun R0 H0 σ τ R H Dn I q => i2 (mask σ) τ R H _ I.mask I.ext.sub (post_mask I q fun ds J R' H' J1 w z => ?_)⟩
  exact for_run g2 b2 J1 w z
def sForR (it : DS → Res (List D)) (p : GF) (body : SF) : SF := fun σ => thenR (it (view σ)) σ fun ds => forS p body ds σ
theorem ds_forR (hp : PassesOwn (model X.prog X.w) X.A X.env X.xe) (hc : X.calm = true) (hi : DR X E tg iter it) (hg : DG X tg ix pt) (hb : DSs X E body gb) (hs : ∀ x, foldedSetIterable iter X.env x = pure x := by intro _; rfl) :
    DS1 X E (.For tg iter body [] pos) (sForR it pt gb) := by
  obtain ⟨wi, i1, i2⟩ := hi
  obtain ⟨tg', g1, g2⟩ := hg
  obtain ⟨tb, b1, b2⟩ := hb
  refine ⟨_, ps_for hp hc i1 g1 b1 hs, fun R0 H0 σ τ R H Dn I q => i2 (view σ) τ (full σ τ R H) H _ I.viewed I.fullH ?_⟩
  unfold sForR at q
  cases z : it (view σ) with
  | ok ds =>
    rw [z] at q
    exact fun J R' H' x w => for_run g2 b2 (I.stepF x).1 (w _) q
  | exc ex => rw [z] at q; exact fun c dx H' s y => q c dx R H' τ (I.same s) (y.back I.ext.hh)
  | stuck => rw [z] at q; exact q
end
end E3

namespace E3
open PySem PySem.Spec PyProof.Rows L2

def spD (K : PySem.W.Frag) (mg : Str → Option Value) (n : Nat) (F : List D → Res D) : Sp := fun vs H Q Ex =>
  vs.length = n ∧ ∃ R ds, Same R H ∧ RpA K R vs ds ∧ Post K mg Ex (rV K) R H Q (F ds)
def endF : SR → Res D
  | .ok (.rt d) _ => .ok d
  | .ok .nx _ => .ok .none
  | .exc e _ => .exc e
  | _ => .stuck
def startF (N : Nat) (ds : List D) : SS := ds.map (fun d => some (.sh d)) ++ List.replicate (N - ds.length) none
def fnD (N n : Nat) (g : SF) : List D → Res D := fun ds => if ds.length = n then endF (g (startF N ds)) else .stuck
section
variable {P : Program} {w : World} {K : PySem.W.Frag} {mg : Str → Option Value} {base : Heap}
theorem start_ro {N : List Str} {vs : List V} {ds : List D} {R H : Hp} (s : Same R H) (h : RpA K R vs ds) : RO K R H R H (startF N.length ds) (L2.start N vs) := by
  have hl := h.length
  have sh : ∀ (i : Nat) (z : Slot), (startF N.length ds)[i]? = some (some z) → ∃ d, ds[i]? = some d ∧ z = .sh d := fun i z q => by
    unfold startF at q
    by_cases hi : i < ds.length
    · rw [List.getElem?_append_left (by rw [List.length_map]; exact hi), List.getElem?_map, List.getElem?_eq_getElem hi] at q
      cases q
      exact ⟨_, List.getElem?_eq_getElem hi, rfl⟩
    · rw [List.getElem?_append_right (by rw [List.length_map]; omega)] at q
      have := List.mem_of_getElem? q
      rw [List.mem_replicate] at this
      cases this.2
  refine ⟨Ext.refl s, fun i d q => ?_, fun i d q => ?_, fun i j d e a q1 q2 => ?_, ?_⟩
  · obtain ⟨d', h1, h2⟩ := sh i _ q
    cases h2
    obtain ⟨v, z1, z2⟩ := h.get h1
    refine ⟨v, ?_, z2⟩
    unfold L2.start
    have hv : i < vs.length := (List.getElem?_eq_some_iff.mp z1).1
    rw [List.getElem?_append_left (by rw [List.length_map]; exact hv), List.getElem?_map, z1]
    rfl
  · obtain ⟨d', h1, h2⟩ := sh i _ q
    cases h2
  · obtain ⟨d', h1, h2⟩ := sh i _ q1
    cases h2
  · unfold startF L2.start
    simp [hl]
theorem fn_mk {x qual : Str} {st : Stmt} {f : Addr} {fd : FuncData} {N ps : List Str} {k : Nat} {g : SF} (F : Fun K x qual st f fd) (S : FnScope N ps (defScope st))
    (hb : ∀ (cdv : Value) (A : Around) (outer : List Env) (s : Shared) (H : Hp) (Ex : XK), Room k (A.deeper (envOfC qual (defScope st) s.heap.objs.size f cdv)) →
      DSs (cxOf (L2.CX P w) P w K mg base N qual (defScope st) f cdv A outer s H Ex) (fun c d _ H => Ex c d H) (defBody st) g) :
    FnOk P w K mg base (L2.CX P w) (k + 1) f fd ps (spD K mg ps.length (fnD N.length ps.length g)) := by
  refine F.okX S (fun vs H Q Ex h => h.1) (fun cdv A outer s H vs Q Ex hr h => ?_)
  obtain ⟨hl, R, ds, sR, hv, q⟩ := h
  obtain ⟨t, t1, t2⟩ := hb cdv A outer s H Ex hr
  refine ⟨t, t1, t2 R H (startF N.length ds) (L2.start N vs) R H _ (start_ro sR hv) ?_⟩
  unfold fnD at q
  rw [if_pos (by rw [← hv.length]; exact hl)] at q
  cases z : g (startF N.length ds) with
  | ok o σ =>
    rw [z] at q
    cases o with
    | nx => exact fun R' H' τ' J => q _ R' H' J.ext Rp.non
    | rt d => exact fun v R' H' x r => q v R' H' x r
    | bk => exact q.elim
    | ct => exact q.elim
  | exc e σ => rw [z] at q; exact fun c dx R' H' τ' J y => q c dx H' J.ext.hh y
  | stuck => rw [z] at q; exact q.elim
abbrev FnD (P : Program) (w : World) (K : PySem.W.Frag) (mg : Str → Option Value) (base : Heap) (k : Nat) (f : Addr) (fd : FuncData) (ps : List Str) (F : List D → Res D) : Prop :=
  FnOk P w K mg base (L2.CX P w) k f fd ps (spD K mg ps.length F)
end
section
variable {X : Cx} {E : WX} {k : Nat} {f : Addr} {fd : FuncData} {ps : List Str} {F : List D → Res D} {x : Str} {p pos : Pos} {e : Expr} {es : List Expr} {ga : DS → Res (List D)}
theorem de_call (G : FnD X.prog X.w X.K X.mg X.base k f fd ps F) (hr : Room k X.A) (hg : Gl X x) (hm : X.mg x = some (.ref f)) (hk : PySem.W.keepIn X.K (.ref f) = true) (hb : Binds X.K fd ps []) (tk : Takes X E)
    (hF : ∀ ds, ds.length ≠ ps.length → F ds = .stuck) (ha : DA X E (e :: es) ga) (hdb : (x == ("__debug__" : Str)) = false := by decide) (he : starEach (e :: es) X.env = (false, eval e X.env) :: starEach es X.env := by rfl) (hpl : (backTo pos (starEach es X.env)).any (·.1) = false := by rfl) :
    DE X E (.Call (.Name x p) (e :: es) [] pos) (eCall F ga) := by
  obtain ⟨t, a1, a2⟩ := ha
  refine ⟨_, pe_callS G hr hg hm hk hb (fun σ => passAt tk σ) a1 hdb he hpl, fun σ τ R H Q hs s h => a2 σ τ R H _ hs s (post_bind s h fun d v R1 H1 e1 q1 h1 => ?_)⟩
  refine ⟨?_, R1, d, e1.sub, q1, h1⟩
  by_cases hl : d.length = ps.length
  · rw [q1.length]; exact hl
  · rw [hF d hl] at h1; exact h1.elim
theorem fnD_len {N n : Nat} {g : SF} : ∀ ds, ds.length ≠ n → fnD N n g ds = .stuck := fun ds h => if_neg h

def Res.ne {α : Type} : Res α → Res α
  | .ok a => .ok a
  | _ => .stuck
def wipeD (σ : DS) : List Nat → DS
  | [] => σ
  | v :: vs => (wipeD σ vs).set v none
def upS (σ : DS) : SS := σ.map fun o => o.map Slot.sh
def patD (p : GF) (d : D) (σ : DS) : Option DS := (p d (upS σ)).map view
def lcD (p : GF) (c : DS → Res Bool) (f : DS → Res D) (σ : DS) : List D → Res (List D)
  | [] => .ok []
  | d :: ds => match patD p d σ with
    | none => .stuck
    | some σ2 => (c σ2).ne.bind fun b => if b then (f σ2).ne.bind fun y => (lcD p c f σ ds).bind fun ys => .ok (y :: ys) else lcD p c f σ ds
def eLc (it : DS → Res (List D)) (p : GF) (vs : List Nat) (c : DS → Res Bool) (f : DS → Res D) : DS → Res D := fun σ => (it σ).bind fun ds => if ds.length ≤ sizeLine then (lcD p c f (wipeD σ vs) ds).bind fun ys => .ok (.list ys) else .stuck
def tYesD : DS → Res Bool := fun _ => .ok true
abbrev E00 : WX := fun _ _ _ _ => False
structure DTs (X : Cx) (E : WX) (ifs : List Expr) (f : DS → Res Bool) : Prop where
  run : ∃ t : TT, PTs X ifs t ∧ ∀ (σ : DS) (τ : L2.St) (R H : Hp) (Q : Bool → Hp → Prop), RS X.K R σ τ → Same R H → Post X.K X.mg (xat E τ) rB R H Q (f σ) → t τ H Q
theorem dts_nil : DTs X E [] tYesD := ⟨_, pts_nil, fun _ _ _ _ _ _ s h => Post.now s (rel := rB) rfl h⟩
theorem dts_one {c : Expr} {f : DS → Res Bool} (h : DT X E c f) : DTs X E [c] f := by
  obtain ⟨t, h1, h2⟩ := h
  exact ⟨t, pts_one h1, h2⟩
theorem wipe_rs {K : PySem.W.Frag} {R : Hp} {σ : DS} {τ : L2.St} (h : RS K R σ τ) : ∀ vs : List Nat, RS K R (wipeD σ vs) (wipe τ vs)
  | [] => h
  | v :: vs => by
    have ih := wipe_rs h vs
    refine ⟨fun i d q => ?_, by show ((wipeD σ vs).set v none).length = ((wipe τ vs).set v none).length; rw [List.length_set, List.length_set]; exact ih.len⟩
    show ∃ w, ((wipe τ vs).set v none)[i]? = _ ∧ _
    have q' : ((wipeD σ vs).set v none)[i]? = some (some d) := q
    by_cases hv : v = i
    · subst hv
      by_cases hl : v < (wipeD σ vs).length
      · rw [List.getElem?_set_self hl] at q'; cases q'
      · rw [List.getElem?_eq_none (by rw [List.length_set]; omega)] at q'; cases q'
    · rw [List.getElem?_set_ne hv] at q' ⊢
      exact ih.get i d q'
theorem up_ro {K : PySem.W.Frag} {R H : Hp} {σ : DS} {τ : L2.St} (s : Same R H) (h : RS K R σ τ) : RO K R H R H (upS σ) τ := by
  have sh : ∀ (i : Nat) (z : Slot), (upS σ)[i]? = some (some z) → ∃ d, σ[i]? = some (some d) ∧ z = .sh d := fun i z q => by
    obtain ⟨a, h1, h2⟩ := get_map (f := fun o : Option D => o.map Slot.sh) rfl q
    exact ⟨a, h1, (Option.some.inj h2).symm⟩
  refine ⟨Ext.refl s, fun i d q => ?_, fun i d q => ?_, fun i j d e a q1 q2 => ?_, by show (σ.map _).length = _; rw [List.length_map]; exact h.len⟩
  · obtain ⟨d', h1, h2⟩ := sh i _ q
    cases h2
    exact h.get i d h1
  · obtain ⟨d', h1, h2⟩ := sh i _ q
    cases h2
  · obtain ⟨d', h1, h2⟩ := sh i _ q1
    cases h2
theorem wipe_wipe {τ τ2 : L2.St} {ix vs : List Nat} (h : Wp ix (wipe τ vs) τ2) (hv : ∀ i ∈ ix, i ∈ vs) : wipe τ2 vs = wipe τ vs := by
  rw [h vs hv]
  apply List.ext_getElem?
  intro j
  rw [wipe_get, wipe_length, wipe_get]
  split
  · rfl
  · rfl
variable {tg elt iter : Expr} {ifs : List Expr} {scope : Scope} {own : List (Str × Nat)} {pt : GF} {ix : List Nat} {it : DS → Res (List D)} {c : DS → Res Bool} {f : DS → Res D}
theorem lc_run {wi : TI} {g : TG} {tt : TT} {te : TE} {vs : List Nat} {K : PySem.W.Frag} {mg : Str → Option Value} {Ex : L2.St → XK}
    (i2 : ∀ (σ : DS) (τ : L2.St) (R H : Hp) (Rq : It → Hp → Prop), RS K R σ τ → Same R H → Post K mg (Ex τ) (fun R' (J : It) ds => Walk K J R' ds) R H Rq (it σ) → wi τ H Rq)
    (hv : ∀ i ∈ ix, i ∈ vs)
    (g2 : ∀ (R0 H0 : Hp) (d : D) (v : V) (σ σ' : SS) (τ : L2.St) (R H : Hp) (Q : L2.St → Hp → Prop), RO K R0 H0 R H σ τ → Rp K R v d → pt d σ = some σ' → (∀ R' H' τ', Same R R' → Wp ix τ τ' → RO K R0 H0 R' H' σ' τ' → Q τ' H') → g v τ H Q)
    (t2 : ∀ (σ : DS) (τ : L2.St) (R H : Hp) (Q : Bool → Hp → Prop), RS K R σ τ → Same R H → Post K mg (fun _ _ _ => False) rB R H Q (c σ) → tt τ H Q)
    (e2 : ∀ (σ : DS) (τ : L2.St) (R H : Hp) (Q : VK), RS K R σ τ → Same R H → Post K mg (fun _ _ _ => False) (rV K) R H Q (f σ) → te τ H Q)
    {σ : DS} {τ : L2.St} {R H : Hp} {Q : VK} (hs : RS K R σ τ) (s : Same R H) (h : PostN K mg (Ex τ) R H Q (eLc it pt vs c f σ)) : tLc wi g tt te vs τ H Q := by
  refine i2 σ τ R H _ hs s ?_
  unfold eLc at h
  cases z : it σ with
  | exc x => rw [z] at h; exact h
  | stuck => rw [z] at h; exact h
  | ok ds =>
    rw [z] at h
    have h0 : PostN K mg (Ex τ) R H Q (if ds.length ≤ sizeLine then (lcD pt c f (wipeD σ vs) ds).bind fun ys => .ok (.list ys) else .stuck) := h
    by_cases hl : ds.length ≤ sizeLine
    · rw [if_pos hl] at h0
      cases zz : lcD pt c f (wipeD σ vs) ds with
      | stuck => rw [zz] at h0; exact h0.elim
      | exc x =>
        exfalso
        clear h0 h z hl i2
        induction ds with
        | nil => cases zz
        | cons d ds ih =>
          unfold lcD at zz
          split at zz
          · cases zz
          · rename_i σ2 hp
            cases w : c σ2 with
            | ok b =>
              rw [w] at zz
              cases b with
              | true =>
                have zz' : ((f σ2).ne.bind fun y => (lcD pt c f (wipeD σ vs) ds).bind fun ys => .ok (y :: ys)) = Res.exc x := zz
                cases w2 : f σ2 with
                | ok y =>
                  rw [w2] at zz'
                  have zz2 : ((lcD pt c f (wipeD σ vs) ds).bind fun ys => .ok (y :: ys)) = Res.exc x := zz'
                  cases w3 : lcD pt c f (wipeD σ vs) ds with
                  | ok ys => rw [w3] at zz2; cases zz2
                  | exc x' => rw [w3] at zz2; cases zz2; exact ih w3
                  | stuck => rw [w3] at zz2; cases zz2
                | exc _ => rw [w2] at zz'; cases zz'
                | stuck => rw [w2] at zz'; cases zz'
              | false => exact ih zz
            | exc _ => rw [w] at zz; cases zz
            | stuck => rw [w] at zz; cases zz
      | ok zs =>
        rw [zz] at h0
        intro J R1 H1 x1 wk Dl hD
        have hs1 := hs.mono x1.rr
        have h1 : PostN K mg (Ex τ) R1 H1 Q (.ok (.list zs)) := PostN.step x1 h0
        have q0 : Same H1 (upd H1 Dl (.lst [])) := same_new hD
        refine ⟨fun i m H => m = ds.length - i ∧ i ≤ ds.length ∧ ∃ R acc ys ws, Ext R1 H1 R H ∧ R Dl = none ∧ H Dl = some (.lst acc) ∧ RpA K R acc ys ∧ acc.length ≤ i ∧ lcD pt c f (wipeD σ vs) (ds.drop i) = .ok ws ∧ zs = ys ++ ws,
          ⟨ds.length, by simp, Nat.zero_le _, R1, [], [], zs, Ext.allocH x1.sub hD, x1.sub.free hD, upd_same, .nil, Nat.le_refl _, by rw [List.drop_zero]; exact zz, rfl⟩, ?_⟩
        rintro i m H2 ⟨rfl, hi, R2, acc, ys, ws, x2, n2, hacc, ra, la, hlc, hz⟩
        obtain ⟨w1, w2⟩ := wk R2 H2 x2.rr x2.sub
        by_cases hlt : i < ds.length
        · have hd : ds[i]? = some ds[i] := List.getElem?_eq_getElem hlt
          obtain ⟨go, yl⟩ := w1 i _ hd
          rw [List.drop_eq_getElem_cons hlt] at hlc
          refine .inr ⟨go, fun H' => ∃ R acc ys ws, Ext R1 H1 R H' ∧ R Dl = none ∧ H' Dl = some (.lst acc) ∧ RpA K R acc ys ∧ acc.length ≤ i + 1 ∧ lcD pt c f (wipeD σ vs) (ds.drop (i + 1)) = .ok ws ∧ zs = ys ++ ws,
            fun H' ⟨R, acc, ys, ws, a, b, c', d', e', f', g'⟩ => ⟨ds.length - (i + 1), by omega, rfl, hlt, R, acc, ys, ws, a, b, c', d', e', f', g'⟩, fun x H3 y => ?_⟩
          obtain ⟨R3, x3, r3⟩ := yl x H3 y
          unfold lcD at hlc
          split at hlc
          · cases hlc
          · rename_i σ2 hp
            unfold patD at hp
            cases hp2 : pt ds[i] (upS (wipeD σ vs)) with
            | none => rw [hp2] at hp; cases hp
            | some σ3 =>
              rw [hp2] at hp
              obtain rfl : view σ3 = σ2 := Option.some.inj hp
              have hsw : RS K R3 (wipeD σ vs) (wipe τ vs) := (wipe_rs hs1 vs).mono (x2.rr.trans x3.rr)
              refine g2 R3 H3 ds[i] x (upS (wipeD σ vs)) σ3 (wipe τ vs) R3 H3 _ (up_ro x3.sub hsw) r3 hp2 fun R4 H4 τ4 s4 w4 J4 => ⟨wipe_wipe w4 hv, ?_⟩
              have x4 : Ext R3 H3 R4 H4 := J4.ext
              -- nothing is owned within
              have hs4 : RS K (full σ3 τ4 R4 H4) (view σ3) τ4 := J4.viewed
              have x4' : Ext R3 H3 (full σ3 τ4 R4 H4) H4 := J4.extF
              have keep : ∀ {Rn Hn : Hp}, Ext R2 H2 Rn Hn → Rn Dl = none ∧ Hn Dl = some (.lst acc) := fun {Rn Hn} e => by
                refine ⟨?_, e.hh _ _ hacc⟩
                cases q : Rn Dl with
                | none => rfl
                | some o =>
                  rcases e.new _ _ q with z | z | ⟨_, z⟩
                  · rw [n2] at z; cases z
                  · rw [hacc] at z; cases z
                  · have w1 := e.hh _ _ hacc
                    rw [e.sub _ _ q, z] at w1; cases w1
              cases w : c (view σ3) with
              | exc _ => rw [w] at hlc; cases hlc
              | stuck => rw [w] at hlc; cases hlc
              | ok b =>
                rw [w] at hlc
                refine t2 (view σ3) τ4 (full σ3 τ4 R4 H4) H4 _ hs4 x4'.sub ?_
                rw [w]
                intro b' R5 H5 x5 q5
                subst q5
                have x5' : Ext R2 H2 R5 H5 := (x3.trans x4').trans x5
                cases b' with
                | false =>
                  have hlc' : lcD pt c f (wipeD σ vs) (ds.drop (i + 1)) = .ok ws := hlc
                  rw [if_neg Bool.false_ne_true]
                  obtain ⟨k1, k2⟩ := keep x5'
                  exact ⟨R5, acc, ys, ws, x2.trans x5', k1, k2, ra.mono x5'.rr, by omega, hlc', hz⟩
                | true =>
                  rw [if_pos rfl]
                  have hlc' : ((f (view σ3)).ne.bind fun y => (lcD pt c f (wipeD σ vs) (ds.drop (i + 1))).bind fun ys => .ok (y :: ys)) = Res.ok ws := hlc
                  cases wf : f (view σ3) with
                  | exc _ => rw [wf] at hlc'; cases hlc'
                  | stuck => rw [wf] at hlc'; cases hlc'
                  | ok dy =>
                    rw [wf] at hlc'
                    have hlc2 : ((lcD pt c f (wipeD σ vs) (ds.drop (i + 1))).bind fun ys => .ok (dy :: ys)) = Res.ok ws := hlc'
                    cases wl : lcD pt c f (wipeD σ vs) (ds.drop (i + 1)) with
                    | exc _ => rw [wl] at hlc2; cases hlc2
                    | stuck => rw [wl] at hlc2; cases hlc2
                    | ok ws' =>
                      rw [wl] at hlc2
                      have ew : dy :: ws' = ws := by injection hlc2
                      refine e2 (view σ3) τ4 R5 H5 _ (hs4.mono x5.rr) x5.sub ?_
                      rw [wf]
                      intro v R6 H6 x6 q6
                      have x6' : Ext R2 H2 R6 H6 := x5'.trans x6
                      obtain ⟨k1, k2⟩ := keep x6'
                      refine ⟨acc, k2, by omega, R6, acc ++ [v], ys ++ [dy], ws', ?_, k1, upd_same, (ra.mono x6'.rr).append (.cons q6 .nil), by rw [List.length_append, List.length_singleton]; omega, rfl, ?_⟩
                      · have y6 := x2.trans x6'
                        refine ⟨y6.rr, fun b o e => ?_, fun b o e => ?_, y6.new⟩
                        · rw [upd_ne (fun z => by rw [z, k1] at e; cases e)]; exact y6.sub _ _ e
                        · rw [upd_ne (fun z => by rw [z, hD] at e; cases e)]; exact y6.hh _ _ e
                      · rw [hz, ← ew, List.append_assoc]; rfl
        · have e : i = ds.length := by omega
          subst e
          rw [List.drop_length] at hlc
          have : ws = [] := by injection hlc with e; exact e.symm
          subst this
          rw [List.append_nil] at hz
          refine .inl ⟨w2, h1 Dl R2 H2 x2 n2 hD ⟨acc, hacc, by rw [hz]; exact ra⟩⟩
    · rw [if_neg hl] at h0; exact h0.elim
def TF (K : PySem.W.Frag) (mg : Str → Option Value) (E : WX) (f : DS → Res D) : TE := fun τ H Q => ∃ σ R, RS K R σ τ ∧ Same R H ∧ Post K mg (xat E τ) (rV K) R H Q (f σ)
def TFT (K : PySem.W.Frag) (mg : Str → Option Value) (E : WX) (f : DS → Res Bool) : TT := fun τ H Q => ∃ σ R, RS K R σ τ ∧ Same R H ∧ Post K mg (xat E τ) rB R H Q (f σ)
def TFG (K : PySem.W.Frag) (ix : List Nat) (p : GF) : TG := fun v τ H Q => ∃ R0 H0 d σ σ' R, RO K R0 H0 R H σ τ ∧ Rp K R v d ∧ p d σ = some σ' ∧ ∀ R' H' τ', Same R R' → Wp ix τ τ' → RO K R0 H0 R' H' σ' τ' → Q τ' H'
theorem DE.pe {e : Expr} {f : DS → Res D} (h : DE X E e f) : PE X e (TF X.K X.mg E f) := by
  obtain ⟨t, h1, h2⟩ := h
  exact ⟨fun pins s σ H Q I ⟨σD, R, a, b, c⟩ => h1.run pins s σ H Q I (h2 σD σ R H Q a b c)⟩
theorem DTs.pts {es : List Expr} {f : DS → Res Bool} (h : DTs X E es f) : PTs X es (TFT X.K X.mg E f) := by
  obtain ⟨t, h1, h2⟩ := h
  exact ⟨fun pins s σ H Q I ⟨σD, R, a, b, c⟩ => h1.run pins s σ H Q I (h2 σD σ R H Q a b c)⟩
theorem DG.pg {tg : Expr} {ix : List Nat} {p : GF} (h : DG X tg ix p) : PG X tg (TFG X.K ix p) := by
  obtain ⟨t, h1, h2⟩ := h
  exact ⟨fun pins s σ H v u Q I r ⟨R0, H0, d, σD, σ', R, a, b, c, q⟩ => h1.run pins s σ H v u Q I r (h2 R0 H0 d v σD σ' σ R H Q a b c q)⟩
theorem dn_lc (hc : X.calm = true) (hN : X.N.Nodup) (hi : DI X E tg iter it) (ok : BlkOk X.N X.env.scope scope own) (hv : ∀ i ∈ ix, i ∈ own.map (·.2))
    (hg : ∀ (s : Shared) (H : Hp) (C : Addr) (cl : List (Str × Addr)) (fp : List Addr), DG (X.blk s H scope (compEnvC scope cl C X.env) fp) tg ix pt)
    (ht : ∀ (s : Shared) (H : Hp) (C : Addr) (cl : List (Str × Addr)) (fp : List Addr), DTs (X.blk s H scope (compEnvC scope cl C X.env) fp) E00 ifs c)
    (he : ∀ (s : Shared) (H : Hp) (C : Addr) (cl : List (Str × Addr)) (fp : List Addr), DE (X.blk s H scope (compEnvC scope cl C X.env) fp) E00 elt f)
    (hs : ∀ x, foldedSetIterable iter X.env x = pure x := by intro _; rfl) :
    DN X E (.ListComp elt [⟨tg, iter, ifs, 0⟩] scope pos) (eLc it pt (own.map (·.2)) c f) := by
  obtain ⟨wi, i1, i2⟩ := hi
  refine ⟨_, pe_lc (g := TFG X.K ix pt) (tt := TFT X.K X.mg E00 c) (te := TF X.K X.mg E00 f) hc hN i1 ok (fun s H C cl fp => (hg s H C cl fp).pg) (fun s H C cl fp => (ht s H C cl fp).pts) (fun s H C cl fp => (he s H C cl fp).pe) hs, fun σ τ R H Q hs s h => ?_⟩
  exact lc_run (K := X.K) (mg := X.mg) (Ex := fun τ => xat E τ) i2 hv (fun R0 H0 d v σ σ' τ R H Q a b c q => ⟨R0, H0, d, σ, σ', R, a, b, c, q⟩) (fun σ τ R H Q a b c => ⟨σ, R, a, b, c⟩) (fun σ τ R H Q a b c => ⟨σ, R, a, b, c⟩) hs s h
theorem ds_newLc (i : Nat) {y : Str} {py spos : Pos} (hc : X.calm = true) (hN : X.N.Nodup) (hy : X.N[i]? = some y) (hyl : X.env.scope.names.lookup y = some .local)
    (hsw : swapsWith (.ListComp elt [⟨tg, iter, ifs, 0⟩] scope pos) (some (.Name y py)) spos.line X.env = pure true) (hi : DI X E tg iter it) (ok : BlkOk X.N X.env.scope scope own) (hv : ∀ i ∈ ix, i ∈ own.map (·.2))
    (hg : ∀ (s : Shared) (H : Hp) (C : Addr) (cl : List (Str × Addr)) (fp : List Addr), DG (X.blk s H scope (compEnvC scope cl C X.env) fp) tg ix pt)
    (ht : ∀ (s : Shared) (H : Hp) (C : Addr) (cl : List (Str × Addr)) (fp : List Addr), DTs (X.blk s H scope (compEnvC scope cl C X.env) fp) E00 ifs c)
    (he : ∀ (s : Shared) (H : Hp) (C : Addr) (cl : List (Str × Addr)) (fp : List Addr), DE (X.blk s H scope (compEnvC scope cl C X.env) fp) E00 elt f)
    (hs : ∀ x, foldedSetIterable iter X.env x = pure x := by intro _; rfl) :
    DS1 X E (.Assign [.Name y py] (.ListComp elt [⟨tg, iter, ifs, 0⟩] scope pos) spos) (sNew i (eLc it pt (own.map (·.2)) c f)) := by
  obtain ⟨wi, i1, i2⟩ := hi
  refine ⟨_, ps_setLc (g := TFG X.K ix pt) (tt := TFT X.K X.mg E00 c) (te := TF X.K X.mg E00 f) hc hN hy hyl hsw i1 ok (fun s H C cl fp => (hg s H C cl fp).pg) (fun s H C cl fp => (ht s H C cl fp).pts) (fun s H C cl fp => (he s H C cl fp).pe) hs, fun R0 H0 σ τ R H Dn I q => ?_⟩
  refine lc_run (K := X.K) (mg := X.mg) (Ex := fun τ => xat E τ) i2 hv (fun R0 H0 d v σ σ' τ R H Q a b c q => ⟨R0, H0, d, σ, σ', R, a, b, c, q⟩) (fun σ τ R H Q a b c => ⟨σ, R, a, b, c⟩) (fun σ τ R H Q a b c => ⟨σ, R, a, b, c⟩) I.mask I.ext.sub ?_
  unfold sNew at q
  cases z : eLc it pt (own.map (·.2)) c f (mask σ) with
  | ok d =>
    rw [z] at q
    exact fun a R' H' x n1 n2 w => q R' H' _ ((I.step x).putO n1 (I.ext.hh.free n2) w (RO.notOwned I n2))
  | exc x => rw [z] at q; exact fun c dx H' s y => q c dx R H' τ (I.same s) (y.back I.ext.hh)
  | stuck => rw [z] at q; exact q
theorem ds_setLc (i : Nat) {y : Str} {py spos : Pos} (hc : X.calm = true) (hN : X.N.Nodup) (hy : X.N[i]? = some y) (hyl : X.env.scope.names.lookup y = some .local)
    (hsw : swapsWith (.ListComp elt [⟨tg, iter, ifs, 0⟩] scope pos) (some (.Name y py)) spos.line X.env = pure true) (hi : DI X E tg iter it) (ok : BlkOk X.N X.env.scope scope own) (hv : ∀ i ∈ ix, i ∈ own.map (·.2))
    (hg : ∀ (s : Shared) (H : Hp) (C : Addr) (cl : List (Str × Addr)) (fp : List Addr), DG (X.blk s H scope (compEnvC scope cl C X.env) fp) tg ix pt)
    (ht : ∀ (s : Shared) (H : Hp) (C : Addr) (cl : List (Str × Addr)) (fp : List Addr), DTs (X.blk s H scope (compEnvC scope cl C X.env) fp) E00 ifs c)
    (he : ∀ (s : Shared) (H : Hp) (C : Addr) (cl : List (Str × Addr)) (fp : List Addr), DE (X.blk s H scope (compEnvC scope cl C X.env) fp) E00 elt f)
    (hs : ∀ x, foldedSetIterable iter X.env x = pure x := by intro _; rfl) :
    DS1 X E (.Assign [.Name y py] (.ListComp elt [⟨tg, iter, ifs, 0⟩] scope pos) spos) (sSet i (eLc it pt (own.map (·.2)) c f)) := by
  obtain ⟨wi, i1, i2⟩ := hi
  refine ⟨_, ps_setLc (g := TFG X.K ix pt) (tt := TFT X.K X.mg E00 c) (te := TF X.K X.mg E00 f) hc hN hy hyl hsw i1 ok (fun s H C cl fp => (hg s H C cl fp).pg) (fun s H C cl fp => (ht s H C cl fp).pts) (fun s H C cl fp => (he s H C cl fp).pe) hs, fun R0 H0 σ τ R H Dn I q => ?_⟩
  refine lc_run (K := X.K) (mg := X.mg) (Ex := fun τ => xat E τ) i2 hv (fun R0 H0 d v σ σ' τ R H Q a b c q => ⟨R0, H0, d, σ, σ', R, a, b, c, q⟩) (fun σ τ R H Q a b c => ⟨σ, R, a, b, c⟩) (fun σ τ R H Q a b c => ⟨σ, R, a, b, c⟩) I.mask I.ext.sub (Post.toN ?_)
  exact post_mask I q fun d v R' H' J y z => z _ _ _ (J.put y)
def boolsOf : List D → Option (List Bool)
  | [] => some []
  | .bool b :: r => (boolsOf r).map (b :: ·)
  | _ :: _ => none
theorem bools_run {K : PySem.W.Frag} {R : Hp} : ∀ {vs : List V} {ds : List D} {bs : List Bool}, RpA K R vs ds → boolsOf ds = some bs → vs = bs.map V.bl
  | _, _, _, .nil, h => by cases h; rfl
  | _, _, bs, .cons (d := .bool b) (ds := ds) h r, q => by
    have q' : (boolsOf ds).map (b :: ·) = some bs := q
    cases z : boolsOf ds with
    | none => rw [z] at q'; cases q'
    | some cs =>
      rw [z] at q'
      cases q'
      cases h
      rw [bools_run r z]; rfl
  | _, _, _, .cons (d := .none) _ _, q => by cases q
  | _, _, _, .cons (d := .int _) _ _, q => by cases q
  | _, _, _, .cons (d := .str _) _ _, q => by cases q
  | _, _, _, .cons (d := .list _) _ _, q => by cases q
  | _, _, _, .cons (d := .tuple _) _ _, q => by cases q
  | _, _, _, .cons (d := .dict _) _ _, q => by cases q
def overB (o : List Bool → Bool) : List D → Res D
  | [.list ds] => match boolsOf ds with
    | some bs => .ok (.bool (o bs))
    | none => .stuck
  | _ => .stuck
def allD : List D → Res D := overB fun bs => bs.all id
def anyD : List D → Res D := overB fun bs => bs.any id
theorem overB_run {o : List Bool → Bool} {K : PySem.W.Frag} {mg : Str → Option Value} {Ex : XK} {R H : Hp} {Q : VK} {vs : List V} {ds : List D} (r : RpA K R vs ds) (s : Same R H) (h : Post K mg Ex (rV K) R H Q (overB o ds)) : ∃ a bs, vs = [.ref a] ∧ SqL K H a (bs.map V.bl) ∧ Q (.bl (o bs)) H := by
  match ds, r, h with
  | [.list es], r, h =>
    obtain ⟨v, rfl, q⟩ := one_inv r
    cases q with
    | lst g1 g2 =>
      simp only [overB] at h
      split at h
      · rename_i bs hb
        refine ⟨_, bs, rfl, ?_, Post.now s (Rp.bl _) h⟩
        rw [← bools_run g2 hb]
        exact (ls_same s g1).sq
      · exact h.elim
  | [], _, h => exact h.elim
  | [.none], _, h => exact h.elim
  | [.bool _], _, h => exact h.elim
  | [.int _], _, h => exact h.elim
  | [.str _], _, h => exact h.elim
  | [.tuple _], _, h => exact h.elim
  | [.dict _], _, h => exact h.elim
  | d1 :: _ :: _, _, h => cases d1 <;> exact h.elim
theorem cd_all (hc : X.calm = true) : CallD X (.builtin "all") allD := ⟨_, cr_all hc, fun vs ds R H Q Ex r s h => overB_run r s h⟩
theorem cd_any (hc : X.calm = true) : CallD X (.builtin "any") anyD := ⟨_, cr_any hc, fun vs ds R H Q Ex r s h => overB_run r s h⟩
end
end E3

namespace E3
open PySem PySem.Spec PyProof.Rows L2

def tyN : D → String
  | .none => "NoneType"
  | .bool _ => "bool"
  | .int _ => "int"
  | .str _ => "str"
  | .list _ => "list"
  | .tuple _ => "tuple"
  | .dict _ => "dict"
def isiT (T : String) (d : D) : Bool := match d with
  | .none => false
  | .bool _ => T == "bool" || T == "int"
  | .int _ => T == "int"
  | .str _ => T == "str"
  | .list _ => T == "list"
  | .tuple _ => T == "tuple"
  | .dict _ => T == "dict"
def TOk (T : String) : Prop := ∀ d : D, kitB (tyN d) T = some (isiT T d)
theorem tok_bool : TOk "bool" := fun d => by cases d <;> (show kitB _ _ = some _; simp only [tyN, isiT]; decide +kernel)
theorem tok_int : TOk "int" := fun d => by cases d <;> (show kitB _ _ = some _; simp only [tyN, isiT]; decide +kernel)
theorem tok_str : TOk "str" := fun d => by cases d <;> (show kitB _ _ = some _; simp only [tyN, isiT]; decide +kernel)
theorem tok_list : TOk "list" := fun d => by cases d <;> (show kitB _ _ = some _; simp only [tyN, isiT]; decide +kernel)
theorem tok_tuple : TOk "tuple" := fun d => by cases d <;> (show kitB _ _ = some _; simp only [tyN, isiT]; decide +kernel)
section
variable {X : Cx} {E : WX} {e : Expr} {f : DS → Res D} {pos p p2 : Pos} {T : String} {x : Str}
theorem ty_run {v : V} {d : D} {R H : Hp} (r : Rp X.K R v d) (s : Same R H) (nd : ∀ k, d ≠ .dict k) : TyX X.K H v (.type (tyN d)) := by
  cases r with
  | non => exact .base .non
  | bl b => exact .base (.bl b)
  | int i => exact .base (.int i)
  | str y => exact .base (.str y)
  | lst h _ =>
    rcases ls_same s h with (h | ⟨o, h⟩) | ⟨its, n, h, _⟩
    · exact .base (.lst h)
    · exact .base (.frz h)
    · exact .kList h rfl
  | tup h _ => exact .base (.tup (s _ _ h))
  | dT _ _ => exact absurd rfl (nd _)
  | ob _ _ => exact absurd rfl (nd _)
def isiD (T : String) : D → Res D
  | .dict _ => .stuck
  | d => .ok (.bool (isiT T d))
theorem de_isi (hT : TOk T) (hc : X.mg "isinstance" = none) (hg : Gl X "isinstance") (he : DE X E e f) (hgT : Gl X x) (hmT : X.mg x = none) (hbT : bootBuiltins x = some (.type T)) (hn : x ≠ "__name__" := by decide) (hdb : (x == ("__debug__" : Str)) = false := by decide)
    (h1 : starEach [e, .Name x p2] X.env = (false, eval e X.env) :: starEach [.Name x p2] X.env := by rfl) (h2 : starEach [.Name x p2] X.env = (false, eval (.Name x p2) X.env) :: starEach [] X.env := by rfl)
    (hpl : (backTo pos (starEach [.Name x p2] X.env)).any (·.1) = false := by rfl) : DE X E (.Call (.Name "isinstance" p) [e, .Name x p2] [] pos) (e1 (isiD T) f) := by
  obtain ⟨t, a1, a2⟩ := he
  refine ⟨_, pe_callB call_isi hg hc boot_isinstance (pa_cons a1 (pa_cons (pe_bltn (v := .ty T) hgT hmT hbT rfl hn hdb) pa_nil h2) h1) (by decide) (by decide) h1 hpl, fun σ τ R H Q hs s h => a2 σ τ R H _ hs s (post_bind s h fun d v R1 H1 x1 q1 k => ?_)⟩
  have nd : ∀ k', d ≠ .dict k' := fun k' z => by subst z; exact k.elim
  refine ⟨v, .ty T, _, _, isiT T d, rfl, .ty T, ty_run q1 x1.sub nd, kit_ty (hT d), ?_⟩
  have k' : Post X.K X.mg (xat E τ) (rV X.K) R1 H1 Q (.ok (.bool (isiT T d))) := by cases d <;> first | exact k | exact k.elim
  exact Post.now x1.sub (Rp.bl _) k'
end

def leD' : D → D → Bool := PySem.W.dataLe false (id : D → D)
def sortL (ds : List D) : List D := ds.mergeSort leD'
def isTupNE : D → Bool
  | .tuple (_ :: _) => true
  | _ => false
def noTup : D → Bool
  | .none => false
  | .tuple _ => false
  | _ => true
def sortOk (ds : List D) : Bool := (ds.all fun d => ds.all fun e => PySem.W.alike d e) && ((ds.all isTupNE) || (ds.all noTup)) && PyData.canLayAll0 ds && decide (PyData.depthAll ds ≤ 64) && decide (ds.length ≤ sizeLine)
theorem sortOk_alike {ds : List D} (h : sortOk ds = true) : PySem.W.AllAlike ds := by
  simp only [sortOk, Bool.and_eq_true, List.all_eq_true] at h
  exact fun d hd d' hd' => h.1.1.1.1 d hd d' hd'
theorem sortOk_able {ds : List D} (h : sortOk ds = true) : PySem.W.Sortable ds := by
  simp only [sortOk, Bool.and_eq_true, Bool.or_eq_true, List.all_eq_true] at h
  rcases h.1.1.1.2 with z | z
  · refine .inl fun d hd => ?_
    have := z d hd
    cases d with
    | tuple xs => cases xs with
      | nil => cases this
      | cons x r => exact ⟨x, r, rfl⟩
    | _ => cases this
  · refine .inr fun d hd => ?_
    have := z d hd
    cases d with
    | none => cases this
    | tuple xs => cases this
    | _ => exact ⟨(fun w => by cases w), fun xs w => by cases w⟩
theorem sortOk_can {ds : List D} (h : sortOk ds = true) : PyData.canLayAll0 ds = true := by
  simp only [sortOk, Bool.and_eq_true] at h
  exact h.1.1.2
theorem sortOk_depth {ds : List D} (h : sortOk ds = true) : ∀ d ∈ ds, d.depth ≤ 64 := fun d hd => by
  simp only [sortOk, Bool.and_eq_true, decide_eq_true_eq] at h
  exact Nat.le_trans (PyData.depth_le_depthAll ds d hd) h.1.2
theorem sortOk_len {ds : List D} (h : sortOk ds = true) : ds.length ≤ sizeLine := by
  simp only [sortOk, Bool.and_eq_true, decide_eq_true_eq] at h
  exact h.2
section
variable {X : Cx} {pins : List (Addr × Obj)} {τ : L2.St} {H : Hp} {s : Shared}
theorem each_zip {K : PySem.W.Frag} {H : Hp} : ∀ {xs : List V} {ds : List D} {us : List Value}, DpAll K H xs ds → Vals xs us → PySem.W.EachIs (fun u (b : V × D) => RelV b.1 u ∧ Dp K H b.1 b.2) us (xs.zip ds)
  | _, _, _, .nil, .nil => .nil
  | _, _, _, .cons h r, .cons q t => .cons ⟨q, h⟩ (each_zip r t)
theorem vals_each {K : PySem.W.Frag} {H : Hp} : ∀ {us : List Value} {bs : List (V × D)}, PySem.W.EachIs (fun u (b : V × D) => RelV b.1 u ∧ Dp K H b.1 b.2) us bs → Vals (bs.map (·.1)) us
  | _, _, .nil => .nil
  | _, _, .cons h t => .cons h.1 (vals_each t)
abbrev zsort (xs : List V) (ds : List D) : List (V × D) := (xs.zip ds).mergeSort (PySem.W.dataLe false (·.2))
theorem dp_len {K : PySem.W.Frag} {H : Hp} : ∀ {xs : List V} {ds : List D}, DpAll K H xs ds → xs.length = ds.length
  | _, _, .nil => rfl
  | _, _, .cons _ r => by rw [List.length_cons, List.length_cons, dp_len r]
theorem zip_snd {xs : List V} {ds : List D} (h : xs.length = ds.length) : (xs.zip ds).map (·.2) = ds := by
  rw [List.map_snd_zip]
  omega
theorem zsort_snd {xs : List V} {ds : List D} (h : xs.length = ds.length) : (zsort xs ds).map (·.2) = sortL ds := by
  show ((xs.zip ds).mergeSort (PySem.W.dataLe false (·.2))).map (·.2) = ds.mergeSort leD'
  exact (PySem.W.sort_maps (r := PySem.W.dataLe false fun p : V × D => p.2) (s := leD') (fun p : V × D => p.2) (fun a _ b _ => rfl)).trans (by rw [zip_snd h])
theorem zsort_rp {K : PySem.W.Frag} {R : Hp} {xs : List V} {ds : List D} (h : RpA K R xs ds) : RpA K R ((zsort xs ds).map (·.1)) (sortL ds) := by
  rw [← zsort_snd h.length]
  have all : ∀ b ∈ xs.zip ds, Rp K R b.1 b.2 := by
    induction ds generalizing xs with
    | nil => intro b hb; simp at hb
    | cons d r ih =>
      cases h with
      | cons h1 h2 =>
        intro b hb
        rw [List.zip_cons_cons] at hb
        rcases List.mem_cons.mp hb with e | hb
        · subst e; exact h1
        · exact ih h2 b hb
  have all2 : ∀ b ∈ zsort xs ds, Rp K R b.1 b.2 := fun b hb => all b ((List.mergeSort_perm _ _).mem_iff.mp hb)
  generalize zsort xs ds = l at all2
  induction l with
  | nil => exact .nil
  | cons b l ih => exact .cons (all2 b List.mem_cons_self) (ih fun c hc => all2 c (List.mem_cons_of_mem _ hc))
def rSortD (K : PySem.W.Frag) : List V → Hp → VK → Prop := fun vs H Q => ∃ (a : Addr) (xs : List V) (ds : List D), vs = [.ref a] ∧ SqL K H a xs ∧ DpAll K H xs ds ∧ sortOk ds = true ∧ ∀ p, H p = none → Q (.ref p) (upd H p (.lst ((zsort xs ds).map (·.1))))
theorem reads_each {xs : List V} {ds : List D} {us : List Value} (I : Inv X pins τ H s) (h : DpAll X.K H xs ds) (v : Vals xs us) : PySem.W.EachIs (fun v (b : V × D) => ∃ as, Reads s.heap v b.2 as) us (xs.zip ds) := by
  refine (each_zip h v).mono fun u b q => ?_
  obtain ⟨as, r⟩ := Dp.reads I b.2 b.1 u q.2 q.1
  exact ⟨as, r⟩
theorem zip_data {xs : List V} {ds : List D} (h : xs.length = ds.length) : (xs.zip ds).map (fun b : V × D => b.2) = ds := zip_snd h
theorem cr_sortD (hu : X.A.units + 70 < cLine) : CallR X (.builtin "sorted") (rSortD X.K) := fun pins s τ H vs us Q I r h => by
  obtain ⟨a, xs, ds, rfl, hl, hd, ok, q⟩ := h
  rw [Vals.ref1 r]
  obtain ⟨its, rv, pl, hz⟩ := I.list hl
  have len := dp_len hd
  refine PySem.W.sorted_data (bs := xs.zip ds) (enc := fun b : V × D => b.2) (R := fun u (b : V × D) => RelV b.1 u ∧ Dp X.K H b.1 b.2) pl.isList (each_zip hd rv) (reads_each I hd rv) (by rw [zip_data len]; exact sortOk_alike ok) (by rw [zip_data len]; exact sortOk_able ok) (by rw [List.length_zip]; omega) (fun b hb => ?_) fun out ho eo => ?_
  · have hm : b.2 ∈ ds := by
      have : b.2 ∈ (xs.zip ds).map (·.2) := List.mem_map.mpr ⟨b, hb, rfl⟩
      rwa [zip_snd len] at this
    have := sortOk_depth ok _ hm
    omega
  · obtain ⟨ep, he'⟩ := PyProof.Rows.sortedAll_at s.heap its out.toArray
    have hv : Vals ((zsort xs ds).map (·.1)) out := vals_each eo
    have hn : H (s.heap.objs.size + 1) = none := I.hok.fresh (Nat.le_succ _)
    have hlen : ((zsort xs ds).map (·.1)).length ≤ sizeLine := by
      rw [List.length_map, (List.mergeSort_perm _ _).length_eq, List.length_zip]; omega
    exact ⟨.ref _, upd H (s.heap.objs.size + 1) (.lst ((zsort xs ds).map (·.1))), I.laid (t' := s.toks) (fun _ _ => PyProof.Rows.sortedAll_old) (Nat.le_succ _) ⟨hlen, out, ep, hv, he'⟩, rfl, q _ hn⟩
def sortedD : List D → Res D
  | [.list ds] => if sortOk ds then .ok (.list (sortL ds)) else .stuck
  | _ => .stuck
theorem cn_sorted (hu : X.A.units + 70 < cLine) : CallN X (.builtin "sorted") sortedD := by
  refine ⟨_, cr_sortD hu, fun vs ds R H Q Ex r s h => ?_⟩
  match ds, r, h with
  | [.list es], r, h =>
    obtain ⟨v, rfl, q⟩ := one_inv r
    cases q with
    | lst g1 g2 =>
      simp only [sortedD] at h
      split at h
      · rename_i ok
        exact ⟨_, _, es, rfl, (ls_same s g1).sq, (g2.mono s).dp (sortOk_can ok), ok, fun p hp => new_own (zsort_rp g2) s hp h⟩
      · exact h.elim
  | [], _, h => exact h.elim
  | [.none], _, h => exact h.elim
  | [.bool _], _, h => exact h.elim
  | [.int _], _, h => exact h.elim
  | [.str _], _, h => exact h.elim
  | [.tuple _], _, h => exact h.elim
  | [.dict _], _, h => exact h.elim
  | d1 :: _ :: _, _, h => cases d1 <;> exact h.elim

def encK (k : List Int) : D := .tuple (k.map .int)
abbrev encL (q : Addr × List Int) : D := encK q.2
def rSortS (K : PySem.W.Frag) (P : Program) (w : World) : List V → Hp → VK → Prop := fun vs H Q => ∃ (a : Addr) (L : List (Addr × List Int)), vs = [V.ref a] ∧ H a = some (SetTO P w a L) ∧ (∀ p ∈ L, SqT K H p.1 (p.2.map V.int)) ∧ (∀ p ∈ L, p.2 ≠ []) ∧
  ∀ (L1 : List (Addr × List Int)) (p : Addr), L1.Perm L → (L1.map (·.2)).Nodup → H p = none → Q (.ref p) (upd H p (.lst ((L1.mergeSort (PySem.W.dataLe false encL)).map fun q => V.ref q.1)))
theorem alike_encK (a b : List Int) : PySem.W.alike (encK a) (encK b) = true := by
  show PySem.W.alike (.tuple _) (.tuple _) = true
  simp only [PySem.W.alike]
  exact PySem.W.alike_ints a b
theorem depth_encK (a : List Int) : (encK a).depth ≤ 1 := by
  show (PyData.tuple _).depth ≤ 1
  simp only [PyData.depth]
  rw [PySem.W.depth_ints]
  omega
theorem perm_map_ex {α β : Type} (f : α → β) {vs l2 : List β} (h : vs.Perm l2) : ∀ {L : List α}, l2 = L.map f → ∃ L1 : List α, L1.Perm L ∧ vs = L1.map f := by
  induction h with
  | nil =>
    intro L e
    cases L with
    | nil => exact ⟨[], .refl _, rfl⟩
    | cons _ _ => cases e
  | cons x _ ih =>
    intro L e
    cases L with
    | nil => cases e
    | cons y L =>
      rw [List.map_cons] at e
      injection e with e1 e2
      obtain ⟨L1, p1, q1⟩ := ih e2
      exact ⟨y :: L1, p1.cons y, by rw [List.map_cons, ← e1, ← q1]⟩
  | swap x y l =>
    intro L e
    cases L with
    | nil => cases e
    | cons a L => cases L with
      | nil => cases e
      | cons b L =>
        rw [List.map_cons, List.map_cons] at e
        injection e with e1 e2
        injection e2 with e2 e3
        exact ⟨b :: a :: L, List.Perm.swap _ _ _, by rw [List.map_cons, List.map_cons, e1, e2, e3]⟩
  | trans _ _ ih1 ih2 =>
    intro L e
    obtain ⟨L1, p1, q1⟩ := ih2 e
    obtain ⟨L2, p2, q2⟩ := ih1 q1
    exact ⟨L2, p2.trans p1, q2⟩
theorem reads_ints {h : Heap} : ∀ {us : List Value} {k : List Int}, IntsAre us k → ReadsAll h us (k.map .int) []
  | _, _, .nil => .nil
  | _, _, .cons n t r => .cons (as := []) (bs := []) (.int n t) (reads_ints r)
theorem reads_isT {P : Program} {w : World} {h : Heap} {k : List Int} {b : Addr} (x : IsT P w h k b) : Reads h (.ref b) (encK k) [] := by
  obtain ⟨o, items, n, ho, hc, hd, hi⟩ := x
  exact .tuple ho hc hd (reads_ints (ints_of_items hi))
theorem each_L {R : Value → Addr × List Int → Prop} : ∀ (L : List (Addr × List Int)), (∀ q ∈ L, R (.ref q.1) q) → PySem.W.EachIs R (L.map fun q => Value.ref q.1) L
  | [], _ => .nil
  | q :: L, h => .cons (h q List.mem_cons_self) (each_L L fun r hr => h r (List.mem_cons_of_mem _ hr))
theorem each_refs : ∀ {us : List Value} {L : List (Addr × List Int)}, PySem.W.EachIs (fun u q => u = Value.ref q.1) us L → us = L.map fun q => Value.ref q.1
  | _, _, .nil => rfl
  | _, _, .cons h t => by rw [List.map_cons, ← h, each_refs t]
theorem cr_sortS (hc : X.calm = true) (hu : X.A.units + 70 < cLine) : CallR X (.builtin "sorted") (rSortS X.K X.prog X.w) := fun pins s τ H vs us Q I r h => by
  obtain ⟨a, L, rfl, ha, hk, hne, q⟩ := h
  have R0 : SetT0 X.prog X.w s.heap a L := (I.hok a _ ha).1
  obtain ⟨es, ep, t, R⟩ := R0.full fun p hp => Inv.isT I (hk p hp)
  rw [Vals.ref1 r]
  have hh := I.ok.hd hc
  obtain ⟨o, ho, hex, hd⟩ := R.ob
  have hsz := R.size
  have hfew := R.few
  refine Calls.call_function_entry kind_sorted plain_sorted entry_sorted (args_sorted1 _) ?_
  unfold Builtin.«sorted»
  refine wpAny_bind (m := checkCount "sorted" 1 1 _) (wpAny_pure ?_)
  refine wpAny_bind (collect_set (A := X.A.in1) hh ⟨o, ho, hex.1, hd⟩ R.fits (by unfold scanBound; omega) R.tab.ris R.led fun s1 vs k1 hz g1 o1 pm => ?_)
  have hes : es.toList.map (·.2) = L.map fun q => Value.ref q.1 := by
    rw [R.rows]; unfold rowsOf; rw [List.map_map]; rfl
  obtain ⟨L1, p1, e1⟩ := perm_map_ex (fun q : Addr × List Int => Value.ref q.1) pm hes
  subst e1
  generalize hvs : L1.map (fun q : Addr × List Int => Value.ref q.1) = vs
  have len1 : L1.length = L.length := p1.length_eq
  have J1 : Inv X pins τ H s1 := Inv.call' I o1 (ch := []) (Un.kept k1) (I.hok.kept k1) (by rw [g1]; exact I.bare) (fun _ z => nomatch z)
  have hvl : vs.length = L1.length := by rw [← hvs, List.length_map]
  refine wpAny_bind (wpAny_newList ?_ (by rw [sizeLine_eq]; omega))
  have hoL : (s1.heap.push (seqObj "list" vs.toArray 0)).get? s1.heap.objs.size = some (seqObj "list" vs.toArray 0) := Heap.get?_push_size _ rfl
  have tk : ∀ q ∈ L1, IsT X.prog X.w (s1.heap.push (seqObj "list" vs.toArray 0)) q.2 q.1 := fun q hq =>
    isT_keep (R.tup q (p1.mem_iff.mp hq)) fun b u e => Heap.get?_push_of_some _ (k1 b u e)
  have al : PySem.W.AllAlike (L1.map encL) := PySem.W.AllAlike.of fun b b' => alike_encK _ _
  refine wpAny_bind (wpAny_holding (PySem.W.list_sort_data (s := { s1 with heap := s1.heap.push (seqObj "list" vs.toArray 0) }) (vs := vs) (bs := L1) (enc := encL) (R := fun u q => u = Value.ref q.1) hoL (hvs ▸ each_L L1 fun _ _ => rfl)
    (hvs ▸ each_L L1 fun q hq => ⟨[], reads_isT (hvs ▸ tk q hq), by simp⟩) al (.inl fun d hd => ?_) (by rw [sizeLine_eq]; omega) (fun b hb => ?_) fun out ho eo => ?_))
  · obtain ⟨q, hq, rfl⟩ := List.mem_map.mp hd
    have hq0 := hne q (p1.mem_iff.mp hq)
    show ∃ x r, PyData.tuple (q.2.map .int) = .tuple (x :: r)
    cases e : q.2 with
    | nil => exact absurd e hq0
    | cons n r => exact ⟨_, _, rfl⟩
  · have := depth_encK b.2
    show X.A.in1.units + 1 + (encK b.2).depth < cLine
    have e : X.A.in1.units = X.A.units + 1 := rfl
    omega
  · obtain ⟨c, hc'⟩ := sortedHeap_at (vs := vs) (out := out.toArray) hoL
    have eo' := each_refs eo
    have hn : H s1.heap.objs.size = none := J1.hok.fresh (Nat.le_refl _)
    have k2 : ∀ b u, s1.heap.get? b = some u → (sortedHeap (s1.heap.push (seqObj "list" vs.toArray 0)) s1.heap.objs.size vs out.toArray).get? b = some u := fun b u e => by
      have hlt := Heap.lt_size e
      rw [sortedHeap_old (Nat.ne_of_lt hlt) (by rw [size_push']; exact Nat.lt_succ_of_lt hlt)]
      exact Heap.get?_push_of_some _ e
    have nd : (L1.map (·.2)).Nodup := (p1.map (·.2)).nodup_iff.mpr R.nd
    refine wpAny_pure ⟨_, rfl, .ref s1.heap.objs.size, _, ?_, rfl, q L1 s1.heap.objs.size p1 nd hn⟩
    refine J1.laid (t' := s1.toks) k2 (Nat.le_refl _) ⟨?_, out, c, ?_, hc'⟩
    · rw [List.length_map, (List.mergeSort_perm _ _).length_eq, len1, sizeLine_eq]; omega
    · rw [eo']; exact vals_of_refs _
end
end E3

namespace E3
open PySem PySem.Spec PyProof.Rows L2

theorem le_total_LI (a b : List Int) : (decide (a ≤ b) || decide (b ≤ a)) = true := by
  rcases List.le_total a b with h | h
  · simp [h]
  · simp [h]
theorem le_trans_LI (a b c : List Int) (h : decide (a ≤ b) = true) (k : decide (b ≤ c) = true) : decide (a ≤ c) = true :=
  decide_eq_true (List.le_trans (of_decide_eq_true h) (of_decide_eq_true k))
def riseK (ks : List (List Int)) : List (List Int) := ks.mergeSort fun a b => decide (a ≤ b)
theorem riseK_pair (ks : List (List Int)) : (riseK ks).Pairwise (fun a b => a ≤ b) :=
  (List.pairwise_mergeSort le_trans_LI le_total_LI ks).imp fun h => of_decide_eq_true h
theorem riseK_perm (ks : List (List Int)) : (riseK ks).Perm ks := List.mergeSort_perm _ _
theorem riseK_uniq {a b : List (List Int)} (h : a.Perm b) : riseK a = riseK b :=
  List.Perm.eq_of_pairwise (le := fun x y : List Int => x ≤ y) (fun x y _ _ h1 h2 => List.le_antisymm h1 h2) (riseK_pair a) (riseK_pair b) ((riseK_perm a).trans (h.trans (riseK_perm b).symm))
theorem leD_enc (a b : List Int) : leD' (encK a) (encK b) = decide (a ≤ b) := by
  have h := congrFun (congrFun (PySem.W.dataLe_rows (fun x : List Int => x)) a) b
  rw [← h]
  show (!PySem.W.dataLt (.tuple _) (.tuple _)) = (!PySem.W.dataLt (.list _) (.list _))
  rw [PySem.W.dataLt_list, PySem.W.dataLt_tuple]
theorem sortL_enc (ks : List (List Int)) : sortL (ks.map encK) = (riseK ks).map encK :=
  (PySem.W.sort_maps (r := fun a b : List Int => decide (a ≤ b)) (s := leD') encK (fun a _ b _ => (leD_enc a b).symm)).symm
def keysOf : List D → Option (List (List Int))
  | [] => some []
  | d :: r => match keyOf d, keysOf r with
    | some k, some ks => some (k :: ks)
    | _, _ => none
def dd : List (List Int) → List (List Int)
  | [] => []
  | a :: r => if a ∈ dd r then dd r else a :: dd r
theorem mem_dd {x : List Int} : ∀ {l : List (List Int)}, x ∈ dd l ↔ x ∈ l
  | [] => Iff.rfl
  | a :: r => by
    unfold dd
    by_cases h : a ∈ dd r
    · rw [if_pos h]
      constructor
      · intro z; exact List.mem_cons_of_mem _ (mem_dd.mp z)
      · intro z
        rcases List.mem_cons.mp z with e | z
        · rw [e]; exact h
        · exact mem_dd.mpr z
    · rw [if_neg h, List.mem_cons, List.mem_cons, mem_dd]
theorem nodup_dd : ∀ l : List (List Int), (dd l).Nodup
  | [] => List.nodup_nil
  | a :: r => by
    unfold dd
    by_cases h : a ∈ dd r
    · rw [if_pos h]; exact nodup_dd r
    · rw [if_neg h]; exact List.nodup_cons.mpr ⟨h, nodup_dd r⟩
def setMost : Nat := 63
def sortSetD : D → Res D
  | .list ds => match keysOf ds with
    | some ks => if ks.length ≤ setMost ∧ (ks.all fun k => !k.isEmpty) = true then .ok (.list ((riseK (dd ks)).map encK)) else .stuck
    | none => .stuck
  | _ => .stuck
theorem keys_run {K : PySem.W.Frag} {R : Hp} : ∀ {xs : List V} {ds : List D} {ks : List (List Int)}, RpA K R xs ds → keysOf ds = some ks → ∃ L : List (Addr × List Int), xs = L.map (fun p => V.ref p.1) ∧ ks = L.map (·.2) ∧ ∀ p ∈ L, R p.1 = some (.tup (p.2.map V.int))
  | _, _, _, .nil, h => by cases h; exact ⟨[], rfl, rfl, fun p hp => by cases hp⟩
  | _, d :: ds, ks, .cons h r, q => by
    unfold keysOf at q
    split at q
    · rename_i k ks' hk hks
      cases q
      obtain ⟨L, e1, e2, e3⟩ := keys_run r hks
      have ed := keyOf_inv hk
      subst ed
      cases h with
      | tup h1 h2 =>
        rename_i a xs
        refine ⟨(a, k) :: L, by rw [List.map_cons, ← e1], by rw [List.map_cons, ← e2], fun p hp => ?_⟩
        rcases List.mem_cons.mp hp with e | hp
        · subst e
          show R a = some (.tup (k.map V.int))
          rw [h1, h2.ints_inv]
        · exact e3 p hp
    · cases q
section
variable {X : Cx} {E : WX} {e : Expr} {f : DS → Res D} {pos p p2 pos2 : Pos}
theorem refsL {L : List (Addr × List Int)} {R : Hp} {K : PySem.W.Frag} (h : ∀ p ∈ L, R p.1 = some (.tup (p.2.map V.int))) : RpA K R (L.map fun q => V.ref q.1) (L.map encL) := by
  induction L with
  | nil => exact .nil
  | cons q L ih => exact .cons (.tup (h q List.mem_cons_self) (RpA.ints _)) (ih fun p hp => h p (List.mem_cons_of_mem _ hp))
theorem dn_sortedSet (hc : X.calm = true) (hu : X.A.units + 70 < cLine) (hg : Gl X "sorted") (hm : X.mg "sorted" = none) (hb : bootBuiltins "sorted" = some (.builtin "sorted")) (hg2 : Gl X "set") (hm2 : X.mg "set" = none) (hb2 : bootBuiltins "set" = some (.type "set")) (he : DE X E e f)
    (h1 : starEach [e] X.env = (false, eval e X.env) :: starEach [] X.env := by rfl) (hp1 : (backTo pos2 (starEach [] X.env)).any (·.1) = false := by rfl)
    (h2 : starEach [.Call (.Name "set" p2) [e] [] pos2] X.env = (false, eval (.Call (.Name "set" p2) [e] [] pos2) X.env) :: starEach [] X.env := by rfl) (hp2 : (backTo pos (starEach [] X.env)).any (·.1) = false := by rfl) :
    DN X E (.Call (.Name "sorted" p) [.Call (.Name "set" p2) [e] [] pos2] [] pos) (e1 sortSetD f) := by
  obtain ⟨t, a1, a2⟩ := he
  refine ⟨_, pe_callB (cr_sortS hc hu) hg hm hb (pa_cons (pe_callTy (cr_setOfT hc (by omega)) hg2 hm2 hb2 (pa_cons a1 pa_nil h1) (by decide) (by decide) h1 hp1) pa_nil h2) (by decide) (by decide) h2 hp2, fun σ τ R H Q hs s h => a2 σ τ R H _ hs s (post_bindN h fun d v R1 H1 x1 q1 k => ?_)⟩
  cases q1 with
  | lst g1 g2 =>
    rename_i l xs ds
    simp only [sortSetD] at k
    split at k
    · rename_i ks hk
      split at k
      · rename_i hl
        obtain ⟨L0, e1, e2, e3⟩ := keys_run g2 hk
        subst e1
        have hl1 : L0.length ≤ 63 := by
          have := hl.1
          rw [e2, List.length_map] at this
          exact this
        have s1 := x1.sub
        refine ⟨l, L0, rfl, (ls_same s1 g1).sq, fun p hp => SqT.of (s1 _ _ (e3 p hp)), by omega, fun a L ha sub cov => ?_⟩
        have s2 : Same H1 (upd H1 a (SetTO X.prog X.w a L)) := same_new ha
        have e4 : ∀ p ∈ L, R1 p.1 = some (.tup (p.2.map V.int)) := fun p hp => e3 p (sub p hp)
        refine ⟨a, L, rfl, upd_same, fun p hp => SqT.of (s2 _ _ (s1 _ _ (e4 p hp))), fun p hp => ?_, fun L1 q pm nd hq => ?_⟩
        · have hm : p.2 ∈ ks := by rw [e2]; exact List.mem_map.mpr ⟨p, sub p hp, rfl⟩
          have := List.all_eq_true.mp hl.2 _ hm
          intro z
          rw [z] at this
          cases this
        · have keq : (L1.mergeSort (PySem.W.dataLe false encL)).map encL = (riseK (dd ks)).map encK := by
            have m1 : (L1.mergeSort (PySem.W.dataLe false encL)).map encL = sortL (L1.map encL) := PySem.W.sort_maps (r := PySem.W.dataLe false encL) (s := leD') encL (fun a _ b _ => rfl)
            have m2 : L1.map encL = (L1.map (·.2)).map encK := by rw [List.map_map]; rfl
            rw [m1, m2, sortL_enc]
            congr 1
            refine riseK_uniq ((List.perm_ext_iff_of_nodup nd (nodup_dd _)).mpr fun x => ?_)
            rw [mem_dd]
            constructor
            · intro hx
              obtain ⟨r, hr, rfl⟩ := List.mem_map.mp hx
              rw [e2]
              exact List.mem_map.mpr ⟨r, sub r (pm.mem_iff.mp hr), rfl⟩
            · intro hx
              rw [e2] at hx
              obtain ⟨r, hr, rfl⟩ := List.mem_map.mp hx
              obtain ⟨r2, hr2, e⟩ := List.mem_map.mp (cov r hr)
              exact List.mem_map.mpr ⟨r2, pm.mem_iff.mpr hr2, e⟩
          have e5 : ∀ r ∈ L1.mergeSort (PySem.W.dataLe false encL), R1 r.1 = some (.tup (r.2.map V.int)) := fun r hr => e4 r (pm.mem_iff.mp ((List.mergeSort_perm _ _).mem_iff.mp hr))
          have ra : RpA X.K R1 ((L1.mergeSort (PySem.W.dataLe false encL)).map fun q => V.ref q.1) ((riseK (dd ks)).map encK) := by
            rw [← keq]
            exact refsL e5
          refine k q R1 _ ⟨Same.refl _, (s1.trans s2).trans (same_new hq), s2.trans (same_new hq), fun _ _ z => .inl z⟩ (s1.free (s2.free hq)) (s2.free hq) ⟨_, upd_same, ra⟩
      · exact k.elim
    · exact k.elim
  | _ => exact k.elim
end

section
variable {X : Cx} {E : WX} {e e' a b : Expr} {f g : DS → Res D} {pos p tpos : Pos} {elts : List Expr} {kk : Nat} {ga : DS → Res (List D)}
def numbered : Nat → List D → List D
  | _, [] => []
  | n, d :: ds => .tuple [.int n, d] :: numbered (n + 1) ds
theorem numbered_get : ∀ (ds : List D) (n i : Nat) (d : D), (numbered n ds)[i]? = some d → ∃ y, ds[i]? = some y ∧ d = .tuple [.int ((n + i : Nat) : Int), y]
  | [], _, _, _, h => by simp [numbered] at h
  | y :: ds, n, 0, d, h => by
    have : d = .tuple [.int n, y] := by simpa [numbered] using h.symm
    exact ⟨y, rfl, this⟩
  | y :: ds, n, i + 1, d, h => by
    obtain ⟨z, h1, h2⟩ := numbered_get ds (n + 1) i d (by simpa [numbered] using h)
    exact ⟨z, by simpa using h1, by rw [h2]; congr 3; omega⟩
theorem numbered_len : ∀ (ds : List D) (n : Nat), (numbered n ds).length = ds.length
  | [], _ => rfl
  | _ :: ds, n => by simp [numbered, numbered_len ds (n + 1)]
def enumD : List D → Res (List D)
  | [.list ds] => .ok (numbered 0 ds)
  | _ => .stuck
theorem new_pair {K : PySem.W.Frag} {R H : Hp} {T : Addr} {x y : V} {d e : D} (s : Same R H) (n : H T = none) (r1 : Rp K R x d) (r2 : Rp K R y e) : ∃ R'', Ext R H R'' (upd H T (.tup [x, y])) ∧ Rp K R'' (.ref T) (.tuple [d, e]) :=
  ⟨_, Ext.alloc s n, .tup upd_same (.cons (r1.mono (same_new (s.free n))) (.cons (r2.mono (same_new (s.free n))) .nil))⟩
theorem walk_enum {K : PySem.W.Frag} {R : Hp} {a : Addr} {xs : List V} {ds : List D} (h : LsQ K R a xs) (q : RpA K R xs ds) : Walk K (Ite K a) R (numbered 0 ds) := fun R' H' s1 s2 => by
  have hH : SqL K H' a xs := (ls_same s2 (ls_same s1 h)).sq
  refine ⟨fun i d hd => ?_, xs, hH, by rw [numbered_len, q.length]; exact Nat.le_refl _⟩
  obtain ⟨y, hy, rfl⟩ := numbered_get ds 0 i d hd
  obtain ⟨v, z1, z2⟩ := q.get hy
  refine ⟨⟨xs, v, hH, z1⟩, fun x H'' w => ?_⟩
  obtain ⟨T, x', rfl, nT, rfl, w⟩ := w
  have e := w xs hH
  rw [z1] at e; cases e
  rw [Nat.zero_add]
  exact new_pair s2 nT (.int _) (z2.mono s1)
theorem di_enum (hg : Gl X "enumerate") (hm : X.mg "enumerate" = none) (ha : DA X E [e] ga) (hs : starEach [e] X.env = [(false, eval e X.env)] := by rfl) :
    DI X E (.Tuple elts kk tpos) (.Call (.Name "enumerate" p) [e] [] pos) (fun σ => (ga σ).bind enumD) := by
  obtain ⟨t, a1, a2⟩ := ha
  refine ⟨_, pi_enum hg hm a1 hs, fun σ τ R H Rq hs s q => a2 σ τ R H _ hs s (post_bind s q fun d v R1 H1 x1 q1 h1 => ?_)⟩
  match d, q1, h1 with
  | [.list ds], q1, h1 =>
    obtain ⟨v, rfl, r⟩ := one_inv q1
    cases r with
    | lst g1 g2 => exact ⟨_, _, rfl, (ls_same x1.sub g1).sq, Post.now x1.sub (walk_enum g1 g2) h1⟩
  | [], _, h1 => exact h1.elim
  | [.none], _, h1 => exact h1.elim
  | [.bool _], _, h1 => exact h1.elim
  | [.int _], _, h1 => exact h1.elim
  | [.str _], _, h1 => exact h1.elim
  | [.tuple _], _, h1 => exact h1.elim
  | [.dict _], _, h1 => exact h1.elim
  | d1 :: _ :: _, _, h1 => cases d1 <;> exact h1.elim
def zipD : List D → List D → List D
  | x :: xs, y :: ys => .tuple [x, y] :: zipD xs ys
  | _, _ => []
theorem zipD_get : ∀ (xs ys : List D) (i : Nat) (d : D), (zipD xs ys)[i]? = some d → ∃ x y, xs[i]? = some x ∧ ys[i]? = some y ∧ d = .tuple [x, y]
  | [], _, _, _, h => by simp [zipD] at h
  | _ :: _, [], _, _, h => by simp [zipD] at h
  | x :: xs, y :: ys, 0, d, h => ⟨x, y, rfl, rfl, by simpa [zipD] using h.symm⟩
  | x :: xs, y :: ys, i + 1, d, h => by
    obtain ⟨u, v, h1, h2, h3⟩ := zipD_get xs ys i d (by simpa [zipD] using h)
    exact ⟨u, v, by simpa using h1, by simpa using h2, h3⟩
theorem zipD_len : ∀ (xs ys : List D), (zipD xs ys).length = min xs.length ys.length
  | [], _ => by simp [zipD]
  | _ :: _, [] => by simp [zipD]
  | _ :: xs, _ :: ys => by simp only [zipD, List.length_cons, zipD_len xs ys]; omega
def zipR : List D → Res (List D)
  | [.list xs, .list ys] => .ok (zipD xs ys)
  | [.tuple xs, .tuple ys] => .ok (zipD xs ys)
  | _ => .stuck
theorem walk_zip {K : PySem.W.Frag} {R : Hp} {a b : Addr} {xs ys : List V} {ds es : List D} (h : LsQ K R a xs) (q : RpA K R xs ds) (h' : LsQ K R b ys) (q' : RpA K R ys es) : Walk K (Itz K a b) R (zipD ds es) := fun R' H' s1 s2 => by
  have hA : SqL K H' a xs := (ls_same s2 (ls_same s1 h)).sq
  have hB : SqL K H' b ys := (ls_same s2 (ls_same s1 h')).sq
  refine ⟨fun i d hd => ?_, xs, ys, hA, hB, by rw [zipD_len, q.length, q'.length]; omega⟩
  obtain ⟨x, y, hx, hy, rfl⟩ := zipD_get ds es i d hd
  obtain ⟨v, z1, z2⟩ := q.get hx
  obtain ⟨u, z3, z4⟩ := q'.get hy
  refine ⟨⟨xs, ys, v, u, hA, hB, z1, z3⟩, fun w H'' k => ?_⟩
  obtain ⟨T, x', y', rfl, nT, rfl, k1, k2⟩ := k
  have e1 := k1 xs hA
  have e2 := k2 ys hB
  rw [z1] at e1; cases e1
  rw [z3] at e2; cases e2
  exact new_pair s2 nT (z2.mono s1) (z4.mono s1)
theorem walk_zipT {K : PySem.W.Frag} {R : Hp} {a b : Addr} {xs ys : List V} {ds es : List D} (h : R a = some (.tup xs)) (q : RpA K R xs ds) (h' : R b = some (.tup ys)) (q' : RpA K R ys es) : Walk K (RZ.ItzT K a b) R (zipD ds es) := fun R' H' s1 s2 => by
  have hA : SqT K H' a xs := SqT.of (s2 _ _ (s1 _ _ h))
  have hB : SqT K H' b ys := SqT.of (s2 _ _ (s1 _ _ h'))
  refine ⟨fun i d hd => ?_, xs, ys, hA, hB, by rw [zipD_len, q.length, q'.length]; omega⟩
  obtain ⟨x, y, hx, hy, rfl⟩ := zipD_get ds es i d hd
  obtain ⟨v, z1, z2⟩ := q.get hx
  obtain ⟨u, z3, z4⟩ := q'.get hy
  refine ⟨⟨xs, ys, v, u, hA, hB, z1, z3⟩, fun w H'' k => ?_⟩
  obtain ⟨T, x', y', rfl, nT, rfl, k1, k2⟩ := k
  have e1 := k1 xs hA
  have e2 := k2 ys hB
  rw [z1] at e1; cases e1
  rw [z3] at e2; cases e2
  exact new_pair s2 nT (z2.mono s1) (z4.mono s1)
theorem di_zip (hg : Gl X "zip") (hm : X.mg "zip" = none) (ha : DA X E [e, e'] ga) (hs : starEach [e, e'] X.env = (false, eval e X.env) :: starEach [e'] X.env := by rfl) (hpl : (backTo pos (starEach [e'] X.env)).any (·.1) = false := by rfl) :
    DI X E (.Tuple elts kk tpos) (.Call (.Name "zip" p) [e, e'] [] pos) (fun σ => (ga σ).bind zipR) := by
  obtain ⟨t, a1, a2⟩ := ha
  refine ⟨_, RZ.pi_zipA hg hm a1 hs hpl, fun σ τ R H Rq hs s q => a2 σ τ R H _ hs s (post_bind s q fun d v R1 H1 x1 q1 h1 => ?_)⟩
  match d, q1, h1 with
  | [.list xs, .list ys], q1, h1 =>
    obtain ⟨v, w, rfl, r, r'⟩ := two_inv q1
    cases r with
    | lst g1 g2 => cases r' with
      | lst g3 g4 => exact ⟨_, _, _, _, rfl, .inl ⟨(ls_same x1.sub g1).sq, (ls_same x1.sub g3).sq, Post.now x1.sub (walk_zip g1 g2 g3 g4) h1⟩⟩
  | [.tuple xs, .tuple ys], q1, h1 =>
    obtain ⟨v, w, rfl, r, r'⟩ := two_inv q1
    cases r with
    | tup g1 g2 => cases r' with
      | tup g3 g4 => exact ⟨_, _, _, _, rfl, .inr ⟨SqT.of (x1.sub _ _ g1), SqT.of (x1.sub _ _ g3), Post.now x1.sub (walk_zipT g1 g2 g3 g4) h1⟩⟩
  | [], _, h1 => exact h1.elim
  | [d1], _, h1 => cases d1 <;> exact h1.elim
  | d1 :: d2 :: d3 :: _, _, h1 => cases d1 <;> cases d2 <;> exact h1.elim
  | [.none, _], _, h1 => exact h1.elim
  | [.bool _, _], _, h1 => exact h1.elim
  | [.int _, _], _, h1 => exact h1.elim
  | [.str _, _], _, h1 => exact h1.elim
  | [.dict _, _], _, h1 => exact h1.elim
  | [.list _, .none], _, h1 => exact h1.elim
  | [.list _, .bool _], _, h1 => exact h1.elim
  | [.list _, .int _], _, h1 => exact h1.elim
  | [.list _, .str _], _, h1 => exact h1.elim
  | [.list _, .tuple _], _, h1 => exact h1.elim
  | [.list _, .dict _], _, h1 => exact h1.elim
  | [.tuple _, .none], _, h1 => exact h1.elim
  | [.tuple _, .bool _], _, h1 => exact h1.elim
  | [.tuple _, .int _], _, h1 => exact h1.elim
  | [.tuple _, .str _], _, h1 => exact h1.elim
  | [.tuple _, .list _], _, h1 => exact h1.elim
  | [.tuple _, .dict _], _, h1 => exact h1.elim
end
end E3

namespace E3
open PySem PySem.Spec PyProof.Rows L2

structure Feed (prog : Program) (w : World) (A : Around) (i l : Addr) (xs : Array Value) (S : Nat → Heap → Prop) : Prop where
  ne : i ≠ l
  keep : ∀ {k h h'}, S k h → (∀ o, h.get? i = some o → h'.get? i = some o) → (∀ o, h.get? l = some o → h'.get? l = some o) → S k h'
  live : ∀ {k h}, S k h → ∃ o, h.get? i = some o
  item : ∀ {k s x} {Q : Value → Shared → Prop} {E : Value → Shared → Prop}, S k s.heap → xs[k]? = some x →
    (∀ h', S (k + 1) h' → Heap.SameBut i s.heap h' → Q x { s with heap := h' }) → wpAny (model prog w) A (Builtin.SmallTypes.nextOf (.ref i)) Q E s
  stop : ∀ {k s} {Q : Value → Shared → Prop} {E : Value → Shared → Prop}, S k s.heap → xs[k]? = none →
    (∀ h' e, Heap.ExtBut i s.heap h' → (∃ o, h'.get? e = some o ∧ o.cls = .type "StopIteration") → E (.ref e) { s with heap := h' }) → wpAny (model prog w) A (Builtin.SmallTypes.nextOf (.ref i)) Q E s
theorem feedL {prog : Program} {w : World} {A : Around} {i l : Addr} {xs : Array Value} (n : i ≠ l) (hh : A.handled = none) : Feed prog w A i l xs fun k h => h.IsListIter i l k ∧ h.IsList l xs where
  ne := n
  keep := fun st a b => ⟨st.1.at a, st.2.at b⟩
  live := fun st => st.1.elim fun o e => ⟨o, e.1⟩
  item := fun st e q => wpAny_nextOf_list_item st.1 st.2 e fun h' z sb => q h' ⟨z, st.2.at fun o p => sb.extBut _ _ n.symm p⟩ sb
  stop := fun st e q => wpAny_nextOf_list_end hh st.1 st.2 e q
theorem tuple_at {h h' : Heap} {a : Addr} {items : Array Value} (x : h.IsTuple a items) (e : ∀ o, h.get? a = some o → h'.get? a = some o) : h'.IsTuple a items := let ⟨o, ho, r⟩ := x; ⟨o, e _ ho, r⟩
theorem feedT {prog : Program} {w : World} {A : Around} {i l : Addr} {xs : Array Value} (n : i ≠ l) (hh : A.handled = none) : Feed prog w A i l xs fun k h => h.IsTupleIter i l k ∧ h.IsTuple l xs where
  ne := n
  keep := fun st a b => ⟨st.1.at a, tuple_at st.2 b⟩
  live := fun st => st.1.elim fun o e => ⟨o, e.1⟩
  item := fun st e q => RZ.nextOf_tuple_item st.1 st.2 e fun h' z sb => q h' ⟨z, tuple_at st.2 fun o p => sb.extBut _ _ n.symm p⟩ sb
  stop := fun st e q => RZ.nextOf_tuple_end hh st.1 st.2 e q

def ZipAt (z t u i j : Addr) (h : Heap) : Prop := IsZip h z t u .none ∧ IsPair h t (.ref i) (.ref j) ∧ ∃ a b, IsPair h u a b
section
variable {prog : Program} {w : World} {A : Around} {E : Value → Shared → Prop} {s : Shared} {z t u i j l m : Addr} {xs ys : Array Value} {S T : Nat → Heap → Prop} {p q : Nat}
theorem zip_asked (D : ZipApart z t u i j l m) (F : Feed prog w A i l xs S) (G : Feed prog w A j m ys T) (Z : ZipAt z t u i j s.heap) (hS : S p s.heap) (hT : T q s.heap) {Q : Fin → Shared → Prop}
    (yes : ∀ x y h', xs[p]? = some x → ys[q]? = some y → IsZip h' z t u (rawInt s.heap.objs.size) → IsPair h' u x y → S (p + 1) h' → T (q + 1) h' → IsPair h' s.heap.objs.size x y →
      (∀ c o, c ≠ z → c ≠ u → c ≠ i → c ≠ j → s.heap.get? c = some o → h'.get? c = some o) → Q (.done (.ret (.ref s.heap.objs.size))) { s with heap := h' })
    (no : ∀ h' e, (xs[p]? = none ∨ ys[q]? = none) → (∀ c o, c ≠ z → c ≠ u → c ≠ i → c ≠ j → s.heap.get? c = some o → h'.get? c = some o) → (∃ o, h'.get? e = some o ∧ o.cls = .type "StopIteration") → E (.ref e) { s with heap := h' }) :
    wpAny (model prog w) A (Builtin.«zip.__next__» ⟨[.ref z], []⟩) Q E s := by
  obtain ⟨hz, ht, a, b, hu⟩ := Z
  show wpAny _ _ (field (.ref z) 2 >>= _) _ _ _
  refine wpAny_bind (wpAny_field hz rfl (x := .bool false) rfl ?_)
  show wpAny _ _ (field (.ref z) 3 >>= _) _ _ _
  refine wpAny_bind (wpAny_field hz rfl (x := .ref t) rfl ?_)
  refine wpAny_bind (wpAny_seqItems ht rfl ?_)
  show wpAny _ _ (Builtin.SmallTypes.ownedTupleIsFree (.ref z) >>= _) _ _ _
  refine wpAny_bind ?_
  unfold Builtin.SmallTypes.ownedTupleIsFree
  refine wpAny_bind (wpAny_field hz rfl (x := .none) rfl (wpAny_pure ?_))
  simp only [if_true]
  refine wpAny_bind (wpAny_rule ?_)
  refine wpAny_bind (wpAny_field hz rfl (x := .ref u) rfl ?_)
  refine wpAny_bind (wpAny_setField_rec hz (by simp) fun g1 z1 d1 => ?_)
  replace z1 : IsZip g1 z t u .ellipsis := z1
  have k1 : ∀ c, c ≠ z → ∀ o, s.heap.get? c = some o → g1.get? c = some o := fun c n o e => d1.extBut _ _ n e
  have S1 : S p g1 := F.keep hS (k1 _ D.i1z) (k1 _ D.l1z)
  have T1 : T q g1 := G.keep hT (k1 _ D.i2z) (k1 _ D.l2z)
  have U1 : IsPair g1 u a b := k1 _ D.TOz _ hu
  refine wpAny_bind ?_
  simp only [List.zipIdx_cons, List.zipIdx_nil, List.forIn_cons, List.forIn_nil]
  refine wpAny_bind (wpAny_bind (wpAny_onRaise ?_))
  show wpAny _ _ (Builtin.SmallTypes.nextOf (.ref i) >>= _) _ _ _
  cases hx : xs[p]? with
  | none =>
    refine wpAny_bind (F.stop S1 hx fun g2 e d2 ⟨oe, he, ce⟩ => ?_)
    have z2 : IsZip g2 z t u .ellipsis := d2 _ _ D.i1z.symm z1
    have ez : e ≠ z := fun v => by subst v; rw [z2] at he; cases he; simp at ce
    exact wpAny_setField_rec z2 (by simp) fun g3 _ d3 => no g3 e (.inl hx) (fun c o n _ n2 _ v => d3.extBut _ _ n (d2 _ _ n2 (k1 c n o v))) ⟨oe, d3.extBut _ _ ez he, ce⟩
  | some x =>
    refine wpAny_bind (F.item S1 hx fun g2 S2 d2 => wpAny_pure ?_)
    have k2 : ∀ c, c ≠ i → ∀ o, g1.get? c = some o → g2.get? c = some o := fun c n o e => d2.extBut _ _ n e
    have U2 : IsPair g2 u a b := k2 _ D.TOi1 _ U1
    refine wpAny_bind (wpAny_seqItems U2 rfl ?_)
    refine wpAny_bind (wpAny_updateSeq_pair U2 fun g3 U3 d3 => ?_)
    replace U3 : IsPair g3 u x b := U3
    have k3 : ∀ c, c ≠ u → ∀ o, g2.get? c = some o → g3.get? c = some o := fun c n o e => d3.extBut _ _ n e
    have T3 : T q g3 := G.keep (G.keep T1 (k2 _ D.i12.symm) (k2 _ D.l2i1)) (k3 _ D.TOi2.symm) (k3 _ D.l2TO)
    have S3 : S (p + 1) g3 := F.keep S2 (k3 _ D.TOi1.symm) (k3 _ D.l1TO)
    have z3 : IsZip g3 z t u .ellipsis := k3 _ D.TOz.symm _ (k2 _ D.i1z.symm _ z1)
    have f3 : ∀ c o, c ≠ z → c ≠ u → c ≠ i → s.heap.get? c = some o → g3.get? c = some o := fun c o n1 n2 n3 e => k3 c n2 o (k2 c n3 o (k1 c n1 o e))
    have n3 : g3.objs.size = s.heap.objs.size := by rw [d3.1, d2.1, d1.1]
    refine wpAny_bind (wpAny_letGo (wpAny_pure ?_))
    refine wpAny_bind (wpAny_bind (wpAny_onRaise ?_))
    show wpAny _ _ (Builtin.SmallTypes.nextOf (.ref j) >>= _) _ _ _
    cases hy : ys[q]? with
    | none =>
      refine wpAny_bind (G.stop T3 hy fun g4 e d4 ⟨oe, he, ce⟩ => ?_)
      have z4 : IsZip g4 z t u .ellipsis := d4 _ _ D.i2z.symm z3
      have ez : e ≠ z := fun v => by subst v; rw [z4] at he; cases he; simp at ce
      exact wpAny_setField_rec z4 (by simp) fun g5 _ d5 => no g5 e (.inr hy) (fun c o n1 n2 n3 n4 v => d5.extBut _ _ n1 (d4 _ _ n4 (f3 c o n1 n2 n3 v))) ⟨oe, d5.extBut _ _ ez he, ce⟩
    | some y =>
      refine wpAny_bind (G.item T3 hy fun g4 T4 d4 => wpAny_pure ?_)
      have k4 : ∀ c, c ≠ j → ∀ o, g3.get? c = some o → g4.get? c = some o := fun c n o e => d4.extBut _ _ n e
      have U4 : IsPair g4 u x b := k4 _ D.TOi2 _ U3
      refine wpAny_bind (wpAny_seqItems U4 rfl ?_)
      refine wpAny_bind (wpAny_updateSeq_pair U4 fun g5 U5 d5 => ?_)
      replace U5 : IsPair g5 u x y := U5
      have k5 : ∀ c, c ≠ u → ∀ o, g4.get? c = some o → g5.get? c = some o := fun c n o e => d5.extBut _ _ n e
      have n5 : g5.objs.size = s.heap.objs.size := by rw [d5.1, d4.1, n3]
      have z5 : IsZip g5 z t u .ellipsis := k5 _ D.TOz.symm _ (k4 _ D.i2z.symm _ z3)
      have S5 : S (p + 1) g5 := F.keep (F.keep S3 (k4 _ D.i12) (k4 _ D.l1i2)) (k5 _ D.TOi1.symm) (k5 _ D.l1TO)
      have T5 : T (q + 1) g5 := G.keep T4 (k5 _ D.TOi2.symm) (k5 _ D.l2TO)
      have f5 : ∀ c o, c ≠ z → c ≠ u → c ≠ i → c ≠ j → s.heap.get? c = some o → g5.get? c = some o := fun c o n1 n2 n3 n4 e => k5 c n2 o (k4 c n4 o (f3 c o n1 n2 n3 e))
      refine wpAny_bind (wpAny_letGo (wpAny_pure (wpAny_pure ?_)))
      refine wpAny_bind (wpAny_seqItems U5 rfl ?_)
      refine wpAny_bind (wpAny_newTuple ?_)
      show wpAny _ _ (Builtin.SmallTypes.ownedTupleHandOut (.ref z) (.ref g5.objs.size) >>= _) _ _ _
      refine wpAny_bind ?_
      unfold Builtin.SmallTypes.ownedTupleHandOut
      have z6 : IsZip (g5.push { cls := .type "tuple", data := .seq #[x, y] }) z t u .ellipsis := Heap.get?_push_of_some _ z5
      refine wpAny_bind (wpAny_setField_rec z6 (by simp) fun g7 z7 d7 => ?_)
      replace z7 : IsZip g7 z t u (rawInt g5.objs.size) := z7
      refine wpAny_setField_rec z7 (by simp) fun g8 z8 d8 => ?_
      replace z8 : IsZip g8 z t u (rawInt g5.objs.size) := z8
      have k8 : ∀ c, c ≠ z → ∀ o, g5.get? c = some o → g8.get? c = some o := fun c n o e => d8.extBut _ _ n (d7.extBut _ _ n (Heap.get?_push_of_some _ e))
      have new : IsPair g8 g5.objs.size x y := by
        have nz : g5.objs.size ≠ z := Nat.ne_of_gt (Heap.lt_size z5)
        exact d8.extBut _ _ nz (d7.extBut _ _ nz (Heap.get?_push_size _ rfl))
      rw [n5] at z8 new
      refine wpAny_pure ?_
      show Q (.done (.ret (.ref g5.objs.size))) _
      rw [n5]
      exact yes x y g8 hx hy z8 (k8 _ D.TOz _ U5) (F.keep S5 (k8 _ D.i1z) (k8 _ D.l1z)) (G.keep T5 (k8 _ D.i2z) (k8 _ D.l2z)) new fun c o n1 n2 n3 n4 e => k8 c n1 o (f5 c o n1 n2 n3 n4 e)
theorem next_zip (D : ZipApart z t u i j l m) (W : Feed prog w A.in1 i l xs S) (G : Feed prog w A.in1 j m ys T) (Z : ZipAt z t u i j s.heap) (hS : S p s.heap) (hT : T q s.heap) {Q : Option Value → Shared → Prop}
    (yes : ∀ x y h', xs[p]? = some x → ys[q]? = some y → IsZip h' z t u (rawInt s.heap.objs.size) → IsPair h' u x y → S (p + 1) h' → T (q + 1) h' → IsPair h' s.heap.objs.size x y →
      (∀ c o, c ≠ z → c ≠ u → c ≠ i → c ≠ j → s.heap.get? c = some o → h'.get? c = some o) → Q (some (.ref s.heap.objs.size)) { s with heap := h' })
    (no : ∀ h', (xs[p]? = none ∨ ys[q]? = none) → (∀ c o, c ≠ z → c ≠ u → c ≠ i → c ≠ j → s.heap.get? c = some o → h'.get? c = some o) → Q none { s with heap := h' }) :
    wpAny (model prog w) A (pyNext (.ref z)) Q E s := by
  have hz : s.TypeIs (.ref z) "zip" := ⟨_, Z.1, rfl⟩
  unfold pyNext
  refine wpAny_bind (wpAny_attempt (wpAny_callSpecial?_slot (name := Str.ofString "__next__") hz F.slot_zip_next (wpAny_call_entry F.slot_zip_next hz F.entry_zip_next ?_ (F.args_zip_next_1 _))))
  refine zip_asked D W G Z hS hT (fun x y h' e1 e2 a1 a2 a3 a4 a5 a6 => ⟨_, rfl, wpAny_pure (yes x y h' e1 e2 a1 a2 a3 a4 a5 a6)⟩) fun h' e hn hk ⟨o, ho, hc⟩ => ?_
  exact wpAny_bind (wpAny_isInstance (T := "StopIteration") (b := true) ⟨o, ho, hc⟩ isSubtype_stop (wpAny_pure (no h' hn hk)))
end

abbrev zf1 (h : Heap) (l : Addr) : Heap := h.push { cls := .type "tuple_iterator", data := .fields #[.ref l, .int 0 0] }
abbrev zf2 (h : Heap) (l m : Addr) : Heap := (zf1 h l).push { cls := .type "list_iterator", data := .fields #[.ref m, .int 0 0] }
abbrev zf3 (h : Heap) (l m : Addr) : Heap := (zf2 h l m).push { cls := .type "tuple", data := .seq #[.ref h.objs.size, .ref (zf1 h l).objs.size] }
abbrev zf4 (h : Heap) (l m : Addr) : Heap := (zf3 h l m).push { cls := .type "tuple", data := .seq #[.none, .none] }
abbrev zf5 (h : Heap) (l m : Addr) : Heap := (zf4 h l m).push { cls := .type "zip", data := .fields #[.none, .bool false, .bool false, .ref (zf2 h l m).objs.size, .ref (zf3 h l m).objs.size] }
theorem zip_made (l m : Addr) (xs ys : Array Value) :
    Meets (Builtin.«zip.__new__» ⟨[.type "zip", .ref l, .ref m], []⟩) (fun _ R s => s.heap.IsTuple l xs ∧ s.heap.IsList m ys ∧ R (.ok (.ret (.ref (zf4 s.heap l m).objs.size))) { s with heap := zf5 s.heap l m }) :=
  .of_wp fun prog w A R s h => by
    obtain ⟨hp, g, d, tk, os⟩ := s; obtain ⟨p1, p2, h⟩ := h
    have hsub := sub_zip
    have q1 : Heap.IsTuple (Shared.heap ⟨hp, g, d, tk, os⟩) l xs := p1
    have q2 : Heap.IsList (Shared.heap ⟨zf1 hp l, g, d, tk, os⟩) m ys := Heap.IsList.push p2 _
    wp_walk using wpAny_pyIter_tuple q1, wpAny_pyIter_list q2
    exact ⟨_, rfl, h⟩
theorem zf_sizes (h : Heap) (l m : Addr) : (zf1 h l).objs.size = h.objs.size + 1 ∧ (zf2 h l m).objs.size = h.objs.size + 2 ∧ (zf3 h l m).objs.size = h.objs.size + 3 ∧ (zf4 h l m).objs.size = h.objs.size + 4 := by
  refine ⟨?_, ?_, ?_, ?_⟩ <;> simp [Heap.size_push]
theorem call_zipM {prog : Program} {w : World} {A : Around} {E : Value → Shared → Prop} {s : Shared} {l m : Addr} {xs ys : Array Value} {Q : Value → Shared → Prop} (p1 : s.heap.IsTuple l xs) (p2 : s.heap.IsList m ys)
    (h : ∀ h', ZipAt (s.heap.objs.size + 4) (s.heap.objs.size + 2) (s.heap.objs.size + 3) s.heap.objs.size (s.heap.objs.size + 1) h' → h'.IsTupleIter s.heap.objs.size l 0 → h'.IsListIter (s.heap.objs.size + 1) m 0 →
      (∀ c o, s.heap.get? c = some o → h'.get? c = some o) → Q (.ref (s.heap.objs.size + 4)) { s with heap := h' }) :
    wpAny (model prog w) A (call (.type "zip") [.ref l, .ref m]) Q E s := by
  refine callType_new F.called_zip (by decide) (F.typeCall_zip_2 _ _) (F.newCall_zip_2 _ _) (fun obj => F.args_object_init_3 obj _ _) F.entry_zip_new (zip_made l m xs ys) ⟨p1, p2, ?_⟩
  obtain ⟨s1, s2, s3, s4⟩ := zf_sizes s.heap l m
  have up : ∀ {g : Heap} {c o} (b : Obj), g.get? c = some o → (g.push b).get? c = some o := fun b e => Heap.get?_push_of_some b e
  have g5 : (zf5 s.heap l m).get? (zf4 s.heap l m).objs.size = some _ := Heap.get?_push_size _ rfl
  have g4 : (zf5 s.heap l m).get? (zf3 s.heap l m).objs.size = some _ := up _ (Heap.get?_push_size _ rfl)
  have g3 : (zf5 s.heap l m).get? (zf2 s.heap l m).objs.size = some _ := up _ (up _ (Heap.get?_push_size _ rfl))
  have g2 : (zf5 s.heap l m).get? (zf1 s.heap l).objs.size = some _ := up _ (up _ (up _ (Heap.get?_push_size _ rfl)))
  have g1 : (zf5 s.heap l m).get? s.heap.objs.size = some _ := up _ (up _ (up _ (up _ (Heap.get?_push_size _ rfl))))
  show _ ∧ _
  rw [s4, s2, s3] at g5
  rw [s2, s1] at g3
  rw [s3] at g4
  rw [s1] at g2
  rw [s4]
  exact ⟨⟨_, g5, rfl⟩, h _ ⟨g5, g3, _, _, g4⟩ ⟨_, g1, rfl, rfl⟩ ⟨_, g2, rfl, rfl⟩ fun c o e => up _ (up _ (up _ (up _ (up _ e))))⟩

def ItzM (K : PySem.W.Frag) (a b : Addr) : It :=
  ⟨fun i H => ∃ (xs ys : List V) (x y : V), SqT K H a xs ∧ SqL K H b ys ∧ xs[i]? = some x ∧ ys[i]? = some y,
    fun i H v H' => ∃ T x y, v = .ref T ∧ H T = none ∧ H' = upd H T (.tup [x, y]) ∧ (∀ xs, SqT K H a xs → xs[i]? = some x) ∧ ∀ ys, SqL K H b ys → ys[i]? = some y,
    fun i H => ∃ xs ys : List V, SqT K H a xs ∧ SqL K H b ys ∧ (xs.length ≤ i ∨ ys.length ≤ i)⟩
theorem turn_zipM {P : Program} {w : World} {K : PySem.W.Frag} {elts : List Expr} {kk : Nat} {tpos : Pos} {a b z t u i j : Addr} (D : ZipApart z t u i j a b) :
    Turn P w K (.Tuple elts kk tpos) (ItzM K a b) [z, t, u, i, j] z (fun k h => ZipAt z t u i j h ∧ h.IsTupleIter i a k ∧ h.IsListIter j b k) where
  mem := by simp
  obj := fun k h st c hc => by
    obtain ⟨⟨hz, ht, x, y, hu⟩, ⟨o1, e1, _, d1⟩, ⟨o2, e2, _, d2⟩⟩ := st
    rcases (by simpa using hc : c = z ∨ c = t ∨ c = u ∨ c = i ∨ c = j) with q | q | q | q | q <;> subst q
    · exact ⟨_, hz, fun v q => nomatch q⟩
    · exact ⟨_, ht, fun v q => nomatch q⟩
    · exact ⟨_, hu, fun v q => nomatch q⟩
    · exact ⟨o1, e1, fun v q => by rw [d1] at q; cases q⟩
    · exact ⟨o2, e2, fun v q => by rw [d2] at q; cases q⟩
  keep := fun k h h' st e => by
    obtain ⟨⟨hz, ht, x, y, hu⟩, h1, h2⟩ := st
    exact ⟨⟨e z (by simp) _ hz, e t (by simp) _ ht, x, y, e u (by simp) _ hu⟩, h1.at fun o q => e i (by simp) o q, h2.at fun o q => e j (by simp) o q⟩
  item := by
    intro X hP hw hK hc k pins s σ H E I hf st hg
    subst hP hw hK
    obtain ⟨Z, h1, h2⟩ := st
    obtain ⟨xs, ys, x, y, qx, qy, hx, hy⟩ := hg
    obtain ⟨its, rv, p, _⟩ := I.tuple qx
    obtain ⟨its2, rv2, p2, _⟩ := I.list qy
    obtain ⟨c1, hc1, r1⟩ := rv.get hx
    obtain ⟨c2, hc2, r2⟩ := rv2.get hy
    have hzl : z < s.heap.objs.size := Heap.lt_size Z.1
    have hd : X.A.in1.handled = none := I.ok.hd hc
    refine next_zip D (feedT D.l1i1.symm hd) (feedL D.l2i2.symm hd) Z (p := k) (q := k) ⟨h1, p⟩ ⟨h2, p2.isList⟩ (fun u1 u2 h' e1 e2 z' U' S' T' new hk => ?_) fun h' hn _ => ?_
    · have f1 : u1 = c1 := by
        have := hc1; simp at e1; rw [this] at e1; cases e1; rfl
      have f2 : u2 = c2 := by
        have := hc2; simp at e2; rw [this] at e2; cases e2; rfl
      subst f1 f2
      refine ⟨_, rfl, wpAny_letOwnedTupleGo_zip (s := { s with heap := h' }) z' fun h'' z'' sb => ?_⟩
      have new2 : h''.get? s.heap.objs.size = some { cls := .type "tuple", data := .seq #[u1, u2] } := (sb.2 _ (Nat.ne_of_gt hzl)).trans new
      have ok : ObjOk X.prog X.w (upd H s.heap.objs.size (.tup [x, y])) h'' s.heap.objs.size (.tup [x, y]) := ⟨by show 2 ≤ sizeLine; decide, [u1, u2], .cons r1 (.cons r2 .nil), ⟨_, new2, rfl, _, rfl⟩⟩
      have out : ∀ c o, c ∉ [z, t, u, i, j] → s.heap.get? c = some o → h''.get? c = some o := fun c o hb q => by
        have nz : c ≠ z := fun v => hb (by simp [v])
        exact (sb.2 c nz).trans (hk c o nz (fun v => hb (by simp [v])) (fun v => hb (by simp [v])) (fun v => hb (by simp [v])) q)
      have I1 : Inv X pins σ (upd H s.heap.objs.size (.tup [x, y])) { s with heap := h'' } := I.turnedNew (t' := s.toks) (ch := [z, t, u, i, j]) (fun c o hb q => out c o hb q) hf (Nat.le_refl _) ok
      refine ⟨.ref s.heap.objs.size, _, I1, rfl, ⟨_, x, y, rfl, I.hok.fresh (Nat.le_refl _), rfl, fun l hl => by rw [I.tuple_inj hl qx]; exact hx, fun l hl => by rw [I.list_inj hl qy]; exact hy⟩, ⟨⟨z'', ?_, u1, u2, ?_⟩, ?_, ?_⟩, fun c hcm => ?_⟩
      · exact (sb.2 _ D.TIz).trans (hk _ _ D.TIz D.TITO D.TIi1 D.TIi2 Z.2.1)
      · exact (sb.2 _ D.TOz).trans U'
      · exact S'.1.at fun o q => (sb.2 _ D.i1z).trans q
      · exact T'.1.at fun o q => (sb.2 _ D.i2z).trans q
      · obtain ⟨o, ho⟩ : ∃ o, s.heap.get? c = some o := by
          obtain ⟨hz, ht, x0, y0, hu⟩ := Z
          obtain ⟨o1, e1, _⟩ := h1
          obtain ⟨o2, e2, _⟩ := h2
          rcases (by simpa using hcm : c = z ∨ c = t ∨ c = u ∨ c = i ∨ c = j) with q | q | q | q | q <;> subst q
          · exact ⟨_, hz⟩
          · exact ⟨_, ht⟩
          · exact ⟨_, hu⟩
          · exact ⟨_, e1⟩
          · exact ⟨_, e2⟩
        rw [upd_ne (Nat.ne_of_lt (Heap.lt_size ho))]
        exact (hf c hcm).1
    · exfalso
      rcases hn with q | q
      · simp at q
        have := (List.getElem?_eq_some_iff.mp hc1).1
        omega
      · simp at q
        have := (List.getElem?_eq_some_iff.mp hc2).1
        omega
  done := by
    intro X hP hw hK hc k pins s σ H E I hf st hg
    subst hP hw hK
    obtain ⟨Z, h1, h2⟩ := st
    obtain ⟨xs, ys, qx, qy, hend⟩ := hg
    obtain ⟨its, rv, p, _⟩ := I.tuple qx
    obtain ⟨its2, rv2, p2, _⟩ := I.list qy
    have l1 := rv.length
    have l2 := rv2.length
    have hd : X.A.in1.handled = none := I.ok.hd hc
    refine next_zip D (feedT D.l1i1.symm hd) (feedL D.l2i2.symm hd) Z (p := k) (q := k) ⟨h1, p⟩ ⟨h2, p2.isList⟩ (fun u1 u2 h' e1 e2 _ _ _ _ _ _ => ?_) fun h' _ hk => ?_
    · exfalso
      simp at e1 e2
      have a1 := (List.getElem?_eq_some_iff.mp e1).1
      have a2 := (List.getElem?_eq_some_iff.mp e2).1
      rcases hend with q | q <;> omega
    · exact ⟨rfl, I.turnedL (t' := s.toks) (ch := [z, t, u, i, j]) (fun c o hb q => hk c o (fun v => hb (by simp [v])) (fun v => hb (by simp [v])) (fun v => hb (by simp [v])) (fun v => hb (by simp [v])) q) hf⟩
  self := fun A k s Q E st h => wpAny_pyIter_zip st.1.1 h

def iZipM (K : PySem.W.Frag) (ta : TA) : TI := fun σ H R => ta σ H fun vs H1 => ∃ a b xs ys, vs = [.ref a, .ref b] ∧ SqT K H1 a xs ∧ SqL K H1 b ys ∧ R (ItzM K a b) H1
theorem pi_zipM {X : Cx} {e e2 : Expr} {ta : TA} {p pos tpos : Pos} {elts : List Expr} {kk : Nat} (hg : Gl X "zip") (hm : X.mg "zip" = none) (ha : PA X [e, e2] ta)
    (hs : starEach [e, e2] X.env = (false, eval e X.env) :: starEach [e2] X.env := by rfl) (hpl : (backTo pos (starEach [e2] X.env)).any (·.1) = false := by rfl) :
    PI X (.Tuple elts kk tpos) (.Call (.Name "zip" p) [e, e2] [] pos) (iZipM X.K ta) := by
  refine ⟨fun pins s σ H R I h => ?_⟩
  refine Call_ (ld_blt I hg hm PyProof.Rows.boot_zip (PyProof.Rows.callWith_type1 (thn (ha.run pos pins s σ H _ I h) fun us s1 ⟨vs, H1, I1, r1, q1⟩ => ?_) hs hpl))
  obtain ⟨a, b, xs, ys, rfl, qx, qy, q⟩ := q1
  cases r1 with
  | cons r rr => cases rr with
    | cons r' rr =>
      cases rr; cases r; cases r'
      obtain ⟨its, rv, p1, _⟩ := I1.tuple qx
      obtain ⟨its2, rv2, p2, _⟩ := I1.list qy
      obtain ⟨o1, ho1, _⟩ := id p1
      refine call_zipM (show s1.heap.IsTuple a its.toArray from p1) p2.isList fun h' Z h1 h2 hk => wpAny_pyIter_zip Z.1 ?_
      have I2 : Inv X pins σ H1 { s1 with heap := h' } := I1.kept (t' := s1.toks) hk
      refine ⟨s1.heap.objs.size + 4, [s1.heap.objs.size + 4, s1.heap.objs.size + 2, s1.heap.objs.size + 3, s1.heap.objs.size, s1.heap.objs.size + 1], _, _, H1, rfl, I2, turn_zipM (PySem.W.ktu_apart s1.heap.objs.size a b (Heap.lt_size ho1) p2.lt), ⟨Z, h1, h2⟩, fun c hcm => ?_, q⟩
      have hle : s1.heap.objs.size ≤ c := by
        have := hcm
        simp only [List.mem_cons, List.not_mem_nil, or_false] at this
        rcases this with v | v | v | v | v <;> subst v <;> first | exact Nat.le_refl _ | exact Nat.le_add_right _ _
      exact I1.fpOk hle (I1.hok.fresh hle)

def zipMR : List D → Res (List D)
  | [.tuple xs, .list ys] => .ok (zipD xs ys)
  | _ => .stuck
theorem walk_zipM {K : PySem.W.Frag} {R : Hp} {a b : Addr} {xs ys : List V} {ds es : List D} (h : R a = some (.tup xs)) (q : RpA K R xs ds) (h' : LsQ K R b ys) (q' : RpA K R ys es) : Walk K (ItzM K a b) R (zipD ds es) := fun R' H' s1 s2 => by
  have hA : SqT K H' a xs := SqT.of (s2 _ _ (s1 _ _ h))
  have hB : SqL K H' b ys := (ls_same s2 (ls_same s1 h')).sq
  refine ⟨fun i d hd => ?_, xs, ys, hA, hB, by rw [zipD_len, q.length, q'.length]; omega⟩
  obtain ⟨x, y, hx, hy, rfl⟩ := zipD_get ds es i d hd
  obtain ⟨v, z1, z2⟩ := q.get hx
  obtain ⟨u, z3, z4⟩ := q'.get hy
  refine ⟨⟨xs, ys, v, u, hA, hB, z1, z3⟩, fun w H'' k => ?_⟩
  obtain ⟨T, x', y', rfl, nT, rfl, k1, k2⟩ := k
  have e1 := k1 xs hA
  have e2 := k2 ys hB
  rw [z1] at e1; cases e1
  rw [z3] at e2; cases e2
  exact new_pair s2 nT (z2.mono s1) (z4.mono s1)
section
variable {X : Cx} {E : WX} {e e' : Expr} {p pos tpos : Pos} {elts : List Expr} {kk : Nat} {ga : DS → Res (List D)}
theorem di_zipM (hg : Gl X "zip") (hm : X.mg "zip" = none) (ha : DA X E [e, e'] ga) (hs : starEach [e, e'] X.env = (false, eval e X.env) :: starEach [e'] X.env := by rfl) (hpl : (backTo pos (starEach [e'] X.env)).any (·.1) = false := by rfl) :
    DI X E (.Tuple elts kk tpos) (.Call (.Name "zip" p) [e, e'] [] pos) (fun σ => (ga σ).bind zipMR) := by
  obtain ⟨t, a1, a2⟩ := ha
  refine ⟨_, pi_zipM hg hm a1 hs hpl, fun σ τ R H Rq hs s q => a2 σ τ R H _ hs s (post_bind s q fun d v R1 H1 x1 q1 h1 => ?_)⟩
  unfold zipMR at h1
  split at h1
  · obtain ⟨v, w, rfl, r, r'⟩ := two_inv q1
    cases r with
    | tup g1 g2 => cases r' with
      | lst g3 g4 => exact ⟨_, _, _, _, rfl, SqT.of (x1.sub _ _ g1), (ls_same x1.sub g3).sq, Post.now x1.sub (walk_zipM g1 g2 g3 g4) h1⟩
  · exact h1.elim
end
end E3

namespace E3
open PySem PySem.Spec PyProof.Rows L2

theorem walk_e3 {l : PySem.W.OpenLaw} {k : Nat} {q : Program} {loose : List Str} {XP : (Str → Option Value) → Heap → Prop} {YP : World → Heap → Prop} {d : DefRec} {K : Params → PySem.W.Frag} {FL : List D → Res D}
    (hn : l.most = some 63) (hdf : d.params.defaults = []) (hr : Room k callerA) (hY : ∀ (w : World) (h : Heap), YP w h → (K w.params).In h)
    (F : ∀ (w : World) (mg : Str → Option Value) (fa : Addr) (h : Heap), (K w.params).In h → h.Ns mainGlobals mg → mg d.name = some (.ref fa) →
      ∃ fd : FuncData, (∀ (s : Shared) (u : Value), BindsTo s fd ⟨[u], []⟩ [("script", u)]) ∧ ∀ base : Heap, (K w.params).In base → base.Ns mainGlobals mg → FnD l.prog w (K w.params) mg base k fa fd ["script"] FL)
    (hF : ∀ ns : List Int, ns.length ≤ 63 → FL [.list (ns.map .int)] = .ok (.bool true)) :
    PySem.W.WalkO q loose XP YP l.row.toRowW d [] (fun f vs => PySem.call f vs) := by
  refine Att.attach_call hn hdf fun w s₀ s₁ mg mb fa o pm cd doc a vs ns G Y ho hd hcd hmg hobj hints hlen hg => ?_
  have KX := hY w _ Y
  obtain ⟨fd, hb, hFn⟩ := F w mg fa _ KX G.T.g hmg
  refine law_call (CX := L2.CX l.prog w) (sp := fun vs H Q _ => vs = [.ref a] ∧ SqL (K w.params) H a (ns.map V.int) ∧ ∀ H', Q (.bl true) H') KX G.T.g G.T.b G.T.builtins G.T.nolimit hg hobj hints (Nat.le_trans hlen (by decide)) hr
    (fun base h1 h2 => (hFn base h1 h2).imp fun us H Q Ex h => ?_) hb (fun H _ hS => ⟨rfl, hS, fun _ => rfl⟩) (fun H e s' z => ?_)
  · obtain ⟨rfl, hS, hQ⟩ := h
    have hL : LsQ (K w.params) H a (ns.map V.int) := by
      rcases hS with hS | ⟨ob, its, n, h1, h2, h3, h4, h5, h6⟩
      · exact .inl hS
      · have e := KX a ob h1
        rw [hobj] at e
        cases e
        cases h4
        exact .inr ⟨_, _, h1, h5, h6⟩
    refine ⟨rfl, H, [.list (ns.map .int)], Same.refl _, .cons (.lst hL (RpA.ints ns)) .nil, ?_⟩
    rw [hF ns hlen]
    intro v R' H' _ r
    cases r
    exact hQ H'
  · obtain ⟨_, _, _, _, _, _, _, _, _, _, _, _, w⟩ := z
    exact w
theorem hu64 {A : Around} {k : Nat} (hr : Room k A) : A.units + 64 < cLine := by have := hr.un; omega
theorem hu65 {A : Around} {k : Nat} (hr : Room k A) : A.units + 65 < cLine := by have := hr.un; omega
theorem hu70 {A : Around} {k : Nat} (hr : Room k A) : A.units + 70 < cLine := by have := hr.un; omega
end E3

namespace E3
open PySem PySem.Spec PyProof.Rows L2
section
variable {X : Cx} {E : WX} {a b : Expr} {f g : DS → Res D} {pos p p2 pos2 : Pos}
def rgD (i j : Int) : Res D := if (-(2 ^ 62) ≤ i ∧ i < 2 ^ 62 ∧ -(2 ^ 62) ≤ j ∧ j < 2 ^ 62 ∧ (j - i).toNat ≤ 2 ^ 24) then .ok (.list (rangeD i j)) else .stuck
def rgL1 : D → Res D
  | .int n => rgD 0 n
  | _ => .stuck
def rgL2 : D → D → Res D
  | .int i, .int j => rgD i j
  | _, _ => .stuck
theorem rp_rg {K : PySem.W.Frag} {R : Hp} (i j : Int) : RpA K R (rgV i j) (rangeD i j) := by
  unfold rgV rangeD
  generalize List.range (j - i).toNat = l
  induction l with
  | nil => exact .nil
  | cons n l ih => exact .cons (Rp.int _) ih
theorem rgD_run {K : PySem.W.Frag} {mg : Str → Option Value} {Ex : XK} {R H : Hp} {Q : VK} {i j : Int} (s : Same R H) (h : PostN K mg Ex R H Q (rgD i j)) : RgOk i j ∧ ∀ q, H q = none → Q (.ref q) (upd H q (.lst (rgV i j))) := by
  unfold rgD at h
  split at h
  · rename_i hl
    exact ⟨hl, fun q hq => new_own (rp_rg i j) s hq h⟩
  · exact h.elim
theorem dn_listRg1 (hc : X.calm = true) (hg : Gl X "list") (hm : X.mg "list" = none) (hg2 : Gl X "range") (hm2 : X.mg "range" = none) (he : DE X E a f)
    (na : starEach [a] X.env = (false, eval a X.env) :: starEach [] X.env := by rfl) (nb : starEach [.Call (.Name "range" p2) [a] [] pos2] X.env = (false, eval (.Call (.Name "range" p2) [a] [] pos2) X.env) :: starEach [] X.env := by rfl) :
    DN X E (.Call (.Name "list" p) [.Call (.Name "range" p2) [a] [] pos2] [] pos) (e1 rgL1 f) := by
  obtain ⟨t, a1, a2⟩ := he
  refine ⟨_, pe_listRg hc hg hm (prg_1 hg2 hm2 a1 na) nb, fun σ τ R H Q hs s h => a2 σ τ R H _ hs s (post_bindN h fun d v R1 H1 x1 q1 k => ?_)⟩
  cases q1 with
  | int n => exact ⟨n, rfl, rgD_run x1.sub k⟩
  | _ => exact k.elim
end
end E3

namespace E3
open PySem PySem.Spec PyProof.Rows L2
section
variable {X : Cx} {E : WX} {a b c : Expr} {f g k : DS → Res D} {pos : Pos}
theorem de_chain {op op' : CmpOp} {o o' : D → D → Res D} (ho : OpD X (compareOp op) o) (ho' : OpD X (compareOp op') o') (ha : DE X E a f) (hb : DE X E b g) (hc : DE X E c k)
    (hm : lastMarks [op, op'] [b, c] = false := by with_unfolding_all rfl) : DE X E (.Compare a [op, op'] [b, c] pos) (eChain o o' f g k) := by
  obtain ⟨r, hr, q⟩ := ho
  obtain ⟨r', hr', q'⟩ := ho'
  obtain ⟨ta, pa, qa⟩ := ha
  obtain ⟨tb, pb, qb⟩ := hb
  obtain ⟨tc, pc, qc⟩ := hc
  refine ⟨_, pe_chain hr hr' pa pb pc hm, fun σ τ R H Q hs s h => ?_⟩
  refine qa σ τ R H _ hs s (post_bind s h fun x v R1 H1 e1 q1 h1 => ?_)
  refine qb σ τ R1 H1 _ (hs.mono e1.rr) e1.sub (post_bind e1.sub h1 fun y w R2 H2 e2 q2 h2 => ?_)
  refine q v w x y R2 H2 _ _ (q1.mono e2.rr) q2 e2.sub (post_bind e2.sub h2 fun z u R3 H3 e3 q3 h3 => ?_)
  cases q3 with
  | bl bb =>
    refine ⟨bb, rfl, ?_⟩
    cases bb with
    | false => exact Post.now e3.sub (Rp.bl false) h3
    | true =>
      have hs3 : RS X.K R3 σ τ := ((hs.mono e1.rr).mono e2.rr).mono e3.rr
      exact qc σ τ R3 H3 _ hs3 e3.sub (post_bind e3.sub h3 fun t t' R4 H4 e4 q4 h4 => q' w t' y t R4 H4 Q _ ((q2.mono e3.rr).mono e4.rr) q4 e4.sub h4)
  | _ => exact h3.elim
end
end E3

namespace E3
open PySem PySem.Spec PyProof.Rows L2
def strsOf : List D → Option (List Str)
  | [] => some []
  | .str z :: r => (strsOf r).map (z :: ·)
  | _ :: _ => none
theorem strs_run {K : PySem.W.Frag} {R : Hp} : ∀ {vs : List V} {ds : List D} {ys : List Str}, RpA K R vs ds → strsOf ds = some ys → vs = ys.map V.str
  | _, _, _, .nil, h => by cases h; rfl
  | _, _, ys, .cons (d := .str z) (ds := ds) h r, q => by
    have q' : (strsOf ds).map (z :: ·) = some ys := q
    cases e : strsOf ds with
    | none => rw [e] at q'; cases q'
    | some cs =>
      rw [e] at q'
      cases q'
      cases h
      rw [strs_run r e]; rfl
  | _, _, _, .cons (d := .none) _ _, q => by cases q
  | _, _, _, .cons (d := .int _) _ _, q => by cases q
  | _, _, _, .cons (d := .bool _) _ _, q => by cases q
  | _, _, _, .cons (d := .list _) _ _, q => by cases q
  | _, _, _, .cons (d := .tuple _) _ _, q => by cases q
  | _, _, _, .cons (d := .dict _) _ _, q => by cases q
def joinL (a : Str) (ds : List D) : Res D := match strsOf ds with
  | some ys => if (ys.map (·.length)).sum + ys.length * a.length ≤ 16777216 then .ok (.str (Txt.join a ys)) else .stuck
  | none => .stuck
def joinD (a : Str) : D → Res D
  | .list ds => joinL a ds
  | .tuple ds => joinL a ds
  | _ => .stuck
def eJoin (f g : DS → Res D) : DS → Res D := fun σ => (f σ).bind fun x => match x with
  | .str a => (g σ).bind (joinD a)
  | _ => .stuck
section
variable {X : Cx} {E : WX} {o e : Expr} {f g : DS → Res D} {pos apos : Pos}
theorem joinL_run {K : PySem.W.Frag} {mg : Str → Option Value} {Ex : XK} {R H : Hp} {Q : VK} {a : Str} {vs : List V} {ds : List D} (s : Same R H) (r : RpA K R vs ds) (h : Post K mg Ex (rV K) R H Q (joinL a ds)) :
    ∃ ys : List Str, vs = ys.map V.str ∧ (ys.map (·.length)).sum + ys.length * a.length ≤ 16777216 ∧ Q (.str (Txt.join a ys)) H := by
  unfold joinL at h
  split at h
  · rename_i ys hy
    split at h
    · rename_i hl
      exact ⟨ys, strs_run r hy, hl, Post.now s (Rp.str _) h⟩
    · exact h.elim
  · exact h.elim
theorem de_join (ho : DE X E o f) (he : DE X E e g) (hs : starEach [e] X.env = [(false, eval e X.env)] := by rfl) (hbase : attributeBase o "join" X.env (eval o X.env) = eval o X.env := by rfl) (hline : (apos.endLine == pos.line) = true := by rfl) :
    DE X E (.Call (.Attribute o "join" apos) [e] [] pos) (eJoin f g) := by
  obtain ⟨t, a1, a2⟩ := ho
  obtain ⟨u, b1, b2⟩ := he
  refine ⟨_, pe_join a1 b1 hs hbase hline, fun σ τ R H Q hs s h => a2 σ τ R H _ hs s (post_bind s h fun d v R1 H1 x1 q1 k => ?_)⟩
  cases q1 with
  | str a =>
    refine ⟨⟨a, rfl⟩, b2 σ τ R1 H1 _ (hs.mono x1.rr) x1.sub (post_bind x1.sub k fun y w R2 H2 x2 q2 k2 => ?_)⟩
    cases q2 with
    | lst h1 r1 =>
      obtain ⟨ys, e1, e2, e3⟩ := joinL_run x2.sub r1 k2
      subst e1
      exact ⟨a, _, ys, rfl, rfl, .inl (ls_same x2.sub h1).sq, e2, e3⟩
    | tup h1 r1 =>
      obtain ⟨ys, e1, e2, e3⟩ := joinL_run x2.sub r1 k2
      subst e1
      exact ⟨a, _, ys, rfl, rfl, .inr (SqT.of (x2.sub _ _ h1)), e2, e3⟩
    | _ => exact k2.elim
  | _ => exact k.elim
end
end E3

namespace E3
open PySem PySem.Spec PyProof.Rows L2
def overI (o : List Int → Res D) : List D → Res D
  | [.list ds] => match intsOf ds with
    | some ns => o ns
    | none => .stuck
  | _ => .stuck
def sumD : List D → Res D := overI fun ns => .ok (.int ns.sum)
def best (c : Int → Int → Bool) : List Int → Res D
  | [] => .stuck
  | n :: ns => .ok (.int (ns.foldl (fun a b => if c a b then b else a) n))
def maxLD : List D → Res D := overI (best fun a b => decide (a < b))
def minLD : List D → Res D := overI (best fun a b => decide (b < a))
def absD : List D → Res D
  | [.int i] => .ok (.int (if i < 0 then -i else i))
  | _ => .stuck
section
variable {X : Cx}
theorem overI_run {o : List Int → Res D} {K : PySem.W.Frag} {mg : Str → Option Value} {Ex : XK} {R H : Hp} {Q : VK} {vs : List V} {ds : List D} (r : RpA K R vs ds) (s : Same R H) (h : Post K mg Ex (rV K) R H Q (overI o ds)) : ∃ a ns, vs = [.ref a] ∧ SqL K H a (ns.map V.int) ∧ Post K mg Ex (rV K) R H Q (o ns) := by
  match ds, r, h with
  | [.list es], r, h =>
    obtain ⟨v, rfl, q⟩ := one_inv r
    cases q with
    | lst g1 g2 =>
      rename_i aa xs
      simp only [overI] at h
      split at h
      · rename_i ns hn
        have e := intsOf_inv hn
        subst e
        have e2 := g2.ints_inv
        subst e2
        exact ⟨_, ns, rfl, (ls_same s g1).sq, h⟩
      · exact h.elim
  | [], _, h => exact h.elim
  | [.none], _, h => exact h.elim
  | [.bool _], _, h => exact h.elim
  | [.int _], _, h => exact h.elim
  | [.str _], _, h => exact h.elim
  | [.tuple _], _, h => exact h.elim
  | [.dict _], _, h => exact h.elim
  | d1 :: _ :: _, _, h => cases d1 <;> exact h.elim
theorem cd_sum (hc : X.calm = true) : CallD X (.builtin "sum") sumD := ⟨_, cr_sum hc, fun vs ds R H Q Ex r s h => by
  obtain ⟨a, ns, e, l, q⟩ := overI_run r s h
  exact ⟨a, ns, e, l, Post.now s (Rp.int _) q⟩⟩
theorem best_of {c : Int → Int → Bool} (tot : ∀ a b, c a b = false → c b a = true ∨ a = b) (tr : ∀ a b d, c b a = false → c d b = false → c d a = false) (ir : ∀ a, c a a = false) (asy : ∀ a b, c a b = true → c b a = false) : ∀ (ns : List Int) (n m : Int), m ∈ n :: ns → (∀ y ∈ n :: ns, c m y = false) → ns.foldl (fun a b => if c a b then b else a) n = m
  | [], n, m, hm, _ => (List.mem_singleton.mp hm).symm
  | x :: ns, n, m, hm, hy => by
    rw [List.foldl_cons]
    refine best_of tot tr ir asy ns _ m ?_ fun y hy2 => ?_
    · rcases List.mem_cons.mp hm with e | hm
      · subst e
        have := hy x (List.mem_cons_of_mem _ List.mem_cons_self)
        rw [this]; exact List.mem_cons_self
      · rcases List.mem_cons.mp hm with e | hm
        · subst e
          have h1 := hy n List.mem_cons_self
          by_cases z : c n m = true
          · rw [if_pos z]; exact List.mem_cons_self
          · rw [if_neg z]
            rcases tot n m (by simpa using z) with z2 | z2
            · rw [h1] at z2; cases z2
            · rw [z2]; exact List.mem_cons_self
        · exact List.mem_cons_of_mem _ hm
    · rcases List.mem_cons.mp hy2 with e | hy2
      · rw [e]
        by_cases z : c n x = true
        · rw [if_pos z]; exact hy x (List.mem_cons_of_mem _ List.mem_cons_self)
        · rw [if_neg z]; exact hy n List.mem_cons_self
      · exact hy y (List.mem_cons_of_mem _ (List.mem_cons_of_mem _ hy2))
theorem cd_maxL (hc : X.calm = true) : CallD X (.builtin "max") maxLD := ⟨_, cr_max hc, fun vs ds R H Q Ex r s h => by
  obtain ⟨a, ns, e, l, q⟩ := overI_run r s h
  cases ns with
  | nil => exact q.elim
  | cons n ns =>
    refine ⟨a, n :: ns, e, l, by rw [List.length_cons]; omega, fun m hm hy => ?_⟩
    have b := best_of (c := fun a b => decide (a < b)) (fun a b z => by simp at z ⊢; omega) (fun a b d z y => by simp at z y ⊢; omega) (fun a => by simp) (fun a b z => by simp at z ⊢; omega) ns n m hm fun y hy2 => by have := hy y hy2; simp; omega
    have q' := Post.now (v := .int m) s (by rw [← b]; exact Rp.int _) q
    exact q'⟩
theorem cd_minL (hc : X.calm = true) : CallD X (.builtin "min") minLD := ⟨_, cr_min hc, fun vs ds R H Q Ex r s h => by
  obtain ⟨a, ns, e, l, q⟩ := overI_run r s h
  cases ns with
  | nil => exact q.elim
  | cons n ns =>
    refine ⟨a, n :: ns, e, l, by rw [List.length_cons]; omega, fun m hm hy => ?_⟩
    have b := best_of (c := fun a b => decide (b < a)) (fun a b z => by simp at z ⊢; omega) (fun a b d z y => by simp at z y ⊢; omega) (fun a => by simp) (fun a b z => by simp at z ⊢; omega) ns n m hm fun y hy2 => by have := hy y hy2; simp; omega
    have q' := Post.now (v := .int m) s (by rw [← b]; exact Rp.int _) q
    exact q'⟩
theorem cd_abs : CallD X (.builtin "abs") absD := ⟨_, call_abs, fun vs ds R H Q Ex r s h => by
  match ds, r, h with
  | [.int i], r, h =>
    obtain ⟨v, rfl, q⟩ := one_inv r
    cases q
    exact ⟨i, rfl, Post.now s (Rp.int _) h⟩
  | [], _, h => exact h.elim
  | [.none], _, h => exact h.elim
  | [.bool _], _, h => exact h.elim
  | [.list _], _, h => exact h.elim
  | [.str _], _, h => exact h.elim
  | [.tuple _], _, h => exact h.elim
  | [.dict _], _, h => exact h.elim
  | d1 :: _ :: _, _, h => cases d1 <;> exact h.elim⟩
end
end E3

namespace E3
open PySem PySem.Spec PyProof.Rows L2

theorem RpK.keys {K : PySem.W.Frag} {R : Hp} : ∀ {ks : List (List Key × V)} {kvs : List (D × D)}, RpK K R ks kvs → ∃ nss : List (List Int), ks.map (·.1) = nss.map (fun ns => ns.map Sum.inl) ∧ kvs.map (·.1) = nss.map encK
  | _, _, .nil => ⟨[], rfl, rfl⟩
  | _, _, .cons (k := k) h r => by
    obtain ⟨nss, e1, e2⟩ := RpK.keys r
    exact ⟨k :: nss, by rw [List.map_cons, List.map_cons, e1], by rw [List.map_cons, List.map_cons, e2]; rfl⟩
theorem keysL {H : Hp} : ∀ {kvs : List (List Key × V)} {bs : List Addr} {nss : List (List Int)}, IsKeys H kvs bs → kvs.map (·.1) = nss.map (fun ns => ns.map Sum.inl) →
    ∃ L : List (Addr × List Int), bs = L.map (·.1) ∧ nss = L.map (·.2) ∧ ∀ q ∈ L, H q.1 = some (.tup (q.2.map V.int))
  | _, _, [], Paired.nil, _ => ⟨[], rfl, rfl, fun _ h => nomatch h⟩
  | _, _, _ :: _, Paired.nil, e => by cases e
  | _, _, [], Paired.cons _ _, e => by cases e
  | _, _, ns :: nss, Paired.cons (a := p) (b := b) h t, e => by
    rw [List.map_cons, List.map_cons] at e
    injection e with e1 e2
    obtain ⟨L, l1, l2, l3⟩ := keysL t e2
    refine ⟨(b, ns) :: L, by rw [List.map_cons, ← l1], by rw [List.map_cons, ← l2], fun q hq => ?_⟩
    rcases List.mem_cons.mp hq with z | hq
    · subst z
      show H b = some (.tup (ns.map V.int))
      rw [h, e1, List.map_map]
      rfl
    · exact l3 q hq
def rSortDT : List V → Hp → VK → Prop := fun vs H Q => ∃ (a : Addr) (kvs : List (List Key × V)) (nss : List (List Int)), vs = [V.ref a] ∧ Rd H a (.dT kvs) ∧ kvs.map (·.1) = nss.map (fun ns => ns.map Sum.inl) ∧ (∀ ns ∈ nss, ns ≠ []) ∧
  ∀ (L : List (Addr × List Int)) (p : Addr), nss = L.map (·.2) → (∀ q ∈ L, H q.1 = some (.tup (q.2.map V.int))) → H p = none → Q (.ref p) (upd H p (.lst ((L.mergeSort (PySem.W.dataLe false encL)).map fun q => V.ref q.1)))
section
variable {X : Cx} {E : WX}
theorem cr_sortDT (hc : X.calm = true) (hu : X.A.units + 70 < cLine) : CallR X (.builtin "sorted") rSortDT := fun pins s τ H vs us Q I r h => by
  obtain ⟨a, kvs, nss, rfl, hd, hk, hne, q⟩ := h
  rw [Vals.ref1 r]
  have hh := I.ok.hd hc
  obtain ⟨z, hs, ks, pr, o, es, ep, ho, hx, hdt, he, hn⟩ := (show ObjOk X.prog X.w H s.heap a (.dT kvs) from hd.ok I.hok)
  have l1 : es.size = ks.length := size_of_entries he
  have l2 : kvs.length = ks.length := Paired.length pr
  refine Calls.call_function_entry kind_sorted plain_sorted entry_sorted (args_sorted1 _) ?_
  unfold Builtin.«sorted»
  refine wpAny_bind (m := checkCount "sorted" 1 1 _) (wpAny_pure ?_)
  refine wpAny_bind (PySem.W.kdu_collect (A := X.A.in1) (kdl_raw hs hx hdt) hh ho (by omega) fun h' tk acc kp it => ?_)
  have ea : acc.toList = ks.map fun x => Value.ref x.2.1 := by
    have hl : acc.toList.length = ks.length := by rw [Array.length_toList, it.1]; exact l1
    apply List.ext_getElem?
    intro j
    rw [List.getElem?_map]
    cases hj : acc.toList[j]? with
    | none =>
      rw [List.getElem?_eq_none (by have := List.getElem?_eq_none_iff.mp hj; omega)]; rfl
    | some v =>
      obtain ⟨en, hen, hv⟩ := it.2 j v (by rw [← Array.getElem?_toList]; exact hj)
      have qe := entry_at he j
      rw [hen] at qe
      cases hb : ks[j]? with
      | none =>
        rw [hb] at qe
        exact nomatch (show some en = none from qe)
      | some b =>
        rw [hb] at qe
        cases Option.some.inj qe
        exact congrArg some hv
  obtain ⟨L, e1, e2, e3⟩ := keysL (isKeys_of pr) hk
  have ev : acc.toList = L.map fun q => Value.ref q.1 := by
    rw [ea]
    have : (ks.map fun x => x.2.1).map Value.ref = (L.map (·.1)).map Value.ref := by rw [e1]
    rw [List.map_map, List.map_map] at this
    exact this
  have lenL : L.length = kvs.length := by
    have := congrArg List.length e1
    rw [List.length_map, List.length_map] at this
    omega
  rw [ev]
  generalize hvs : L.map (fun q : Addr × List Int => Value.ref q.1) = vs
  have hvl : vs.length = L.length := by rw [← hvs, List.length_map]
  have J1 : Inv X pins τ H { s with heap := h', toks := tk } := I.kept kp
  refine wpAny_bind (wpAny_newList ?_ (by omega))
  have hoL : (h'.push (seqObj "list" vs.toArray 0)).get? h'.objs.size = some (seqObj "list" vs.toArray 0) := Heap.get?_push_size _ rfl
  have tkL : ∀ q ∈ L, IsT X.prog X.w (h'.push (seqObj "list" vs.toArray 0)) q.2 q.1 := fun q hq =>
    isT_keep (J1.isT (SqT.of (e3 q hq))) fun b u e => Heap.get?_push_of_some _ e
  have al : PySem.W.AllAlike (L.map encL) := PySem.W.AllAlike.of fun b b' => alike_encK _ _
  refine wpAny_bind (wpAny_holding (PySem.W.list_sort_data (s := { s with heap := h'.push (seqObj "list" vs.toArray 0), toks := tk }) (vs := vs) (bs := L) (enc := encL) (R := fun u q => u = Value.ref q.1) hoL (hvs ▸ each_L L fun _ _ => rfl)
    (hvs ▸ each_L L fun q hq => ⟨[], reads_isT (hvs ▸ tkL q hq), by simp⟩) al (.inl fun d hd => ?_) (by omega) (fun b hb => ?_) fun out ho eo => ?_))
  · obtain ⟨q, hq, rfl⟩ := List.mem_map.mp hd
    have hq0 := hne q.2 (by rw [e2]; exact List.mem_map.mpr ⟨q, hq, rfl⟩)
    show ∃ x r, PyData.tuple (q.2.map .int) = .tuple (x :: r)
    cases e : q.2 with
    | nil => exact absurd e hq0
    | cons n r => exact ⟨_, _, rfl⟩
  · have := depth_encK b.2
    show X.A.in1.units + 1 + (encK b.2).depth < cLine
    have e : X.A.in1.units = X.A.units + 1 := rfl
    omega
  · obtain ⟨c, hc'⟩ := sortedHeap_at (vs := vs) (out := out.toArray) hoL
    have eo' := each_refs eo
    have hn : H h'.objs.size = none := J1.hok.fresh (Nat.le_refl _)
    have k2 : ∀ b u, h'.get? b = some u → (sortedHeap (h'.push (seqObj "list" vs.toArray 0)) h'.objs.size vs out.toArray).get? b = some u := fun b u e => by
      have hlt := Heap.lt_size e
      rw [sortedHeap_old (Nat.ne_of_lt hlt) (by rw [size_push']; exact Nat.lt_succ_of_lt hlt)]
      exact Heap.get?_push_of_some _ e
    refine wpAny_pure ⟨_, rfl, .ref h'.objs.size, _, ?_, rfl, q L h'.objs.size e2 e3 hn⟩
    refine J1.laid (t' := tk) k2 (Nat.le_refl _) ⟨?_, out, c, ?_, hc'⟩
    · rw [List.length_map, (List.mergeSort_perm _ _).length_eq]; omega
    · rw [eo']; exact vals_of_refs _
def keyNE : D × D → Bool
  | (.tuple (_ :: _), _) => true
  | _ => false
def sortAnyD : List D → Res D
  | [.dict kvs] => if kvs.all keyNE then .ok (.list (sortL (kvs.map (·.1)))) else .stuck
  | ds => sortedD ds
open Classical in
noncomputable def addT (R H : Hp) (bs : List Addr) : Hp := fun a => if a ∈ bs then H a else R a
theorem addT_in {R H : Hp} {bs : List Addr} {a : Addr} (h : a ∈ bs) : addT R H bs a = H a := by unfold addT; rw [if_pos h]
theorem addT_out {R H : Hp} {bs : List Addr} {a : Addr} (h : a ∉ bs) : addT R H bs a = R a := by unfold addT; rw [if_neg h]
theorem cn_sortAny (hc : X.calm = true) (hu : X.A.units + 70 < cLine) : CallN X (.builtin "sorted") sortAnyD := by
  obtain ⟨r0, c0, h0⟩ := cn_sorted (X := X) hu
  refine ⟨_, CallR.or (cr_sortDT hc hu) c0, fun vs ds R H Q Ex r s h => ?_⟩
  match ds, r, h with
  | [.dict kvs], r, h =>
    obtain ⟨v, rfl, q⟩ := one_inv r
    cases q with
    | ob g1 g2 => cases g1 <;> exact h.elim
    | @dT a ks _ g1 g2 =>
      simp only [sortAnyD] at h
      split at h
      · rename_i ok
        obtain ⟨nss, e1, e2⟩ := g2.keys
        have rdH : Rd H a (.dT ks) := rd_same s g1
        refine .inl ⟨a, ks, nss, rfl, rdH, e1, fun ns hns z => ?_, fun L p l1 l2 hp => ?_⟩
        · have hm : encK ns ∈ kvs.map (·.1) := by rw [e2]; exact List.mem_map.mpr ⟨ns, hns, rfl⟩
          obtain ⟨kv, hkv, ek⟩ := List.mem_map.mp hm
          have := List.all_eq_true.mp ok _ hkv
          obtain ⟨k0, v0⟩ := kv
          have ek' : k0 = encK ns := ek
          rw [ek', z] at this
          cases this
        · have keq : (L.mergeSort (PySem.W.dataLe false encL)).map encL = sortL (kvs.map (·.1)) := by
            have m1 : (L.mergeSort (PySem.W.dataLe false encL)).map encL = sortL (L.map encL) := PySem.W.sort_maps (r := PySem.W.dataLe false encL) (s := leD') encL (fun a _ b _ => rfl)
            rw [m1, e2, l1, List.map_map]; rfl
          have mem : ∀ b, b ∈ L.map (·.1) → ∃ xs, H b = some (.tup xs) := fun b hb => by
            obtain ⟨q, hq, rfl⟩ := List.mem_map.mp hb
            exact ⟨_, l2 q hq⟩
          have rr : Same R (addT R H (L.map (·.1))) := fun b o e => by
            by_cases hb : b ∈ L.map (·.1)
            · rw [addT_in hb]; exact s _ _ e
            · rw [addT_out hb]; exact e
          have hh : Same (addT R H (L.map (·.1))) H := fun b o e => by
            by_cases hb : b ∈ L.map (·.1)
            · rw [addT_in hb] at e; exact e
            · rw [addT_out hb] at e; exact s _ _ e
          refine h p (addT R H (L.map (·.1))) _ ⟨rr, hh.trans (same_new hp), same_new hp, fun b o e => ?_⟩ (hh.free hp) hp ⟨_, upd_same, ?_⟩
          · by_cases hb : b ∈ L.map (·.1)
            · rw [addT_in hb] at e
              obtain ⟨xs, ex⟩ := mem b hb
              rw [ex] at e
              exact .inr (.inr ⟨xs, (Option.some.inj e).symm⟩)
            · rw [addT_out hb] at e; exact .inl e
          · rw [← keq]
            refine refsL fun q hq => ?_
            have hq' := (List.mergeSort_perm _ _).mem_iff.mp hq
            rw [addT_in (List.mem_map.mpr ⟨q, hq', rfl⟩)]
            exact l2 q hq'
      · exact h.elim
  | [.list es], r, h => exact .inr (h0 _ _ R H Q Ex r s h)
  | [], r, h => exact .inr (h0 _ _ R H Q Ex r s h)
  | [.none], r, h => exact .inr (h0 _ _ R H Q Ex r s h)
  | [.bool _], r, h => exact .inr (h0 _ _ R H Q Ex r s h)
  | [.int _], r, h => exact .inr (h0 _ _ R H Q Ex r s h)
  | [.str _], r, h => exact .inr (h0 _ _ R H Q Ex r s h)
  | [.tuple _], r, h => exact .inr (h0 _ _ R H Q Ex r s h)
  | d1 :: d2 :: ds, r, h =>
    refine .inr (h0 _ _ R H Q Ex r s ?_)
    have e : sortAnyD (d1 :: d2 :: ds) = sortedD (d1 :: d2 :: ds) := by cases d1 <;> rfl
    rw [← e]; exact h

def rLenD : List V → Hp → VK → Prop := fun xs H Q => ∃ (p : Addr) (kvs : List (List Key × V)), xs = [.ref p] ∧ Rd H p (.dT kvs) ∧ Q (.int ((kvs.length : Nat) : Int)) H
theorem call_lenD : CallR X (.builtin "len") rLenD := by
  intro pins s σ H xs us Q I r h
  obtain ⟨p, kvs, rfl, hp, q⟩ := h
  rw [Vals.ref1 r]
  obtain ⟨z, hd, ys, rel, dd⟩ := dt_rd I.hok hp
  have hl : kvs.length = ys.length := Paired.length rel
  refine call_len_dictH hd dd (by rw [← hl]; rw [sizeLine_eq] at z; omega) ?_
  rw [← hl]
  exact ⟨.int ((kvs.length : Nat) : Int), H, I.tok _, ⟨_, rfl⟩, q⟩
def lenAny : List D → Res D
  | [.dict kvs] => if obK kvs then .stuck else .ok (.int kvs.length)
  | ds => lenD ds
theorem cd_lenA : CallD X (.builtin "len") lenAny := by
  obtain ⟨r0, c0, h0⟩ := cd_len (X := X)
  refine ⟨_, CallR.or call_lenD c0, fun vs ds R H Q Ex r s h => ?_⟩
  match ds, r, h with
  | [.dict kvs], r, h =>
    obtain ⟨v, rfl, q⟩ := one_inv r
    cases q with
    | dT g1 g2 =>
      simp only [lenAny, g2.noOb, Bool.false_eq_true, if_false] at h
      exact .inl ⟨_, _, rfl, rd_same s g1, by rw [g2.length]; exact Post.now s (Rp.int _) h⟩
    | ob g1 g2 => cases g1 <;> exact h.elim
  | [.list es], r, h => exact .inr (h0 _ _ R H Q Ex r s h)
  | [], r, h => exact .inr (h0 _ _ R H Q Ex r s h)
  | [.none], r, h => exact .inr (h0 _ _ R H Q Ex r s h)
  | [.bool _], r, h => exact .inr (h0 _ _ R H Q Ex r s h)
  | [.int _], r, h => exact .inr (h0 _ _ R H Q Ex r s h)
  | [.str _], r, h => exact .inr (h0 _ _ R H Q Ex r s h)
  | [.tuple _], r, h => exact .inr (h0 _ _ R H Q Ex r s h)
  | d1 :: d2 :: ds, r, h =>
    refine .inr (h0 _ _ R H Q Ex r s ?_)
    have e : lenAny (d1 :: d2 :: ds) = lenD (d1 :: d2 :: ds) := by cases d1 <;> rfl
    rw [← e]; exact h

def dropD (kvs : List (D × D)) (k : List Int) : List (D × D) := kvs.filter fun p => decide (keyOf p.1 ≠ some k)
theorem RpK.drop {K : PySem.W.Frag} {R : Hp} (k : List Int) : ∀ {ks : List (List Key × V)} {kvs : List (D × D)}, RpK K R ks kvs → RpK K R (dropK ks (k.map Sum.inl)) (dropD kvs k)
  | _, _, .nil => .nil
  | _, _, .cons (k := j) (v := vv) (d := dd) (kvs := ks) (ds := kvs) h r => by
    have ih := r.drop k
    by_cases e : j = k
    · subst e
      have e1 : dropK ((j.map Sum.inl, vv) :: ks) (j.map Sum.inl) = dropK ks (j.map Sum.inl) := List.filter_cons_of_neg (by simp)
      have e2 : dropD ((.tuple (j.map .int), dd) :: kvs) j = dropD kvs j := List.filter_cons_of_neg (by simp [keyOf_t])
      rw [e1, e2]; exact ih
    · have e1 : dropK ((j.map Sum.inl, vv) :: ks) (k.map Sum.inl) = (j.map Sum.inl, vv) :: dropK ks (k.map Sum.inl) := List.filter_cons_of_pos (by simpa using fun z => e (key_inj.mp z))
      have e2 : dropD ((.tuple (j.map .int), dd) :: kvs) k = (.tuple (j.map .int), dd) :: dropD kvs k := List.filter_cons_of_pos (by simpa [keyOf_t] using e)
      rw [e1, e2]; exact .cons h ih
def rPop1 : V → List V → Hp → VK → Prop := fun x xs H Q => ∃ (a : Addr) (kvs : List (List Key × V)) (k : List Key) (b : Addr) (v : V), x = .ref a ∧ xs = [.ref b] ∧ H a = some (.dT kvs) ∧ H b = some (.tup (k.map kV)) ∧ valV kvs k = some v ∧ Q v (upd H a (.dT (dropK kvs k)))
theorem mt_pop1 (hu : X.A.units + 1 < cLine) : MtR X "dict.pop" rPop1 := by
  intro pins s σ H x xs v us Q I rx rxs h
  obtain ⟨a, kvs, k, b, v1, rfl, rfl, ha, hb, hv, q⟩ := h
  cases rx
  rw [Vals.ref1 rxs]
  obtain ⟨z, hd, xs', rel, dd⟩ := dt_of I.hok ha
  have hz : xs'.length ≤ sizeLine := by rw [← Paired.length rel]; exact z
  have r := rel.val k
  rw [hv] at r
  cases hp : atKey xs' k with
  | none =>
    rw [hp] at r
    exact (show False from r).elim
  | some p =>
    rw [hp] at r
    refine call_pop_heap (knd := tupleKind (mixKind X.prog X.w)) (k := k) (more := []) (.inl rfl) (PySem.F.args_dict_pop_2 _ _) (tupleKind_room_in1 hu) (key_of I.hok hb) hd dd hp (fun h' dd' hs => ?_) hz
    obtain ⟨o, es, ep, hq, h2, h3, h4, _, h5⟩ := dd'
    have I2 : Inv X pins σ (upd H a (.dT (dropK kvs k))) { s with heap := h', toks := s.toks + (tupleKind (mixKind X.prog X.w)).draws k } :=
      d_write I (by rw [ha]; exact True.intro) hs ⟨o, hq⟩ ⟨Nat.le_trans (dropK_le kvs k) z, hd, _, (L2.DX.KT_drop k rel).keeps (fun c ys ec => (by rw [upd_ne (ne_of ec ha (fun z => nomatch z))]; exact ec)), o, es, ep, hq, h2, h3, h4, h5⟩
    exact ⟨v1, _, I2, r, q⟩
def popK (i : Nat) (σ : SS) (kvs : List (D × D)) (k : D) (g : D → SS → SR) : SR := match keyOf k with
  | some ns => match valK kvs ns with
    | some d => g d (σ.set i (some (.ow (.dict (dropD kvs ns)))))
    | none => .stuck
  | none => .stuck
def sPopD (i : Nat) (fk : DS → Res (List D)) : SF := fun σ => ownD i σ fun kvs => thenR (fk (view σ)) σ fun ds => if flatA ds then (match ds with
  | [k] => popK i σ kvs k fun _ σ' => .ok .nx σ'
  | _ => .stuck) else .stuck
variable {R0 H0 R H : Hp} {σ : SS} {τ : L2.St} {Dn : Ends} {x : Str} {np apos pos pos' : Pos} {e : Expr} {ga : DS → Res (List D)}
theorem tyD {H : Hp} {a : Addr} {kvs : List (List Key × V)} (h : H a = some (.dT kvs)) : tyV X.K "dict" (.ref a) H := by
  first
    | exact .inr (.inl ⟨rfl, .inr ⟨_, .inl h⟩⟩)
    | exact .inr ⟨rfl, .inr ⟨_, .inl h⟩⟩
    | (unfold tyV; simp [h, IsD, Rd])
theorem ds_popD (i : Nat) (hu : X.A.units + 65 < cLine) (hv : IsV X i x np) (ha : DA X E [e] ga)
    (hs : swapsWith (.Call (.Attribute (.Name x np) "pop" apos) [e] [] pos) none pos'.line X.env = pure false := by rfl)
    (hpe : ∀ {r : V → List V → Hp → VK → Prop} {to : TE} {t : TA}, MtR X "dict.pop" r → PE X (.Name x np) to → PA X [e] t → PE X (.Call (.Attribute (.Name x np) "pop" apos) [e] [] pos) (tBM X.K "dict" r to t)) :
    DS1 X E (.Expr (.Call (.Attribute (.Name x np) "pop" apos) [e] [] pos) pos') (sPopD i ga) := by
  obtain ⟨t, a1, a2⟩ := ha
  refine ⟨_, ps_expr (hpe (mt_pop1 (by omega)) hv a1) hs, fun R0 H0 σ τ R H Dn I q => ?_⟩
  obtain ⟨a, kvs, hc, h1, q⟩ := ownD_run I q
  obtain ⟨a', h1', h2, h3, ks0, h4, h5⟩ := I.ow i _ hc
  rw [h1] at h1'; cases h1'
  refine ⟨_, h1, tyD h4, a2 (view σ) τ (full σ τ R H) H _ I.viewed I.fullH (post_viewA I q fun ds vs R' H' J y z => ?_)⟩
  match ds, y, z with
  | [dk], y, z =>
    obtain ⟨k, rfl, rk⟩ := one_inv y
    obtain ⟨a', h1', h2, h3, ks, h4, h5⟩ := J.ow i _ hc
    rw [h1] at h1'; cases h1'
    simp only [popK] at z
    split at z
    · rename_i ns hk
      split at z
      · rename_i d hval
        obtain ⟨b, rfl, hb⟩ := key_run rk J.ext.sub hk
        obtain ⟨v, hv1, hv2⟩ := (h5.val ns).1 d hval
        exact ⟨a, ks, ns.map Sum.inl, b, v, rfl, rfl, h4, hb, hv1, z R' _ τ (J.mut (d := .dict (dropD kvs ns)) hc h1 ⟨_, upd_same, h5.drop ns⟩)⟩
      · exact z.elim
    · exact z.elim
  | [], _, z => exact z.elim
  | _ :: _ :: _, _, z => exact z.elim

def popAtM : MF := fun c ds => match ds with
  | [.int i] => if -(2 ^ 63) ≤ i ∧ i < 2 ^ 63 then (match seqIndex? i c.length with
    | some k => match c[k]? with
      | some d => some (d, c.eraseIdx k)
      | none => none
    | none => none) else none
  | _ => none
theorem md_popAt : MtD X "list.pop" popAtM := by
  refine ⟨_, mt_popAt, fun a xs c vs ds d c' R H Q hH hR hx hv s hm q => ?_⟩
  match ds, hv, hm with
  | [.int i], hv, hm =>
    obtain ⟨v, rfl, r⟩ := one_inv hv
    cases r
    simp only [popAtM] at hm
    by_cases hi : -(2 ^ 63) ≤ i ∧ i < 2 ^ 63
    · rw [if_pos hi] at hm
      split at hm
      · rename_i k hk
        split at hm
        · rename_i d' hd
          cases hm
          obtain ⟨v, z1, z2⟩ := hx.get hd
          exact ⟨a, xs, i, k, v, rfl, rfl, hH, hi.1, hi.2, by rw [hx.length]; exact hk, z1, q _ _ (hx.eraseIdx k) z2⟩
        · cases hm
      · cases hm
    · rw [if_neg hi] at hm; cases hm
  | [.none], _, hm => cases hm
  | [.bool _], _, hm => cases hm
  | [.str _], _, hm => cases hm
  | [.list _], _, hm => cases hm
  | [.tuple _], _, hm => cases hm
  | [.dict _], _, hm => cases hm
  | [], _, hm => cases hm
  | d1 :: _ :: _, _, hm => cases d1 <;> cases hm
def setIx (i : Nat) (σ : SS) (c : List D) (k v : D) : SR := match k with
  | .int j => match ixN c.length j with
    | some n => .ok .nx (σ.set i (some (.ow (.list (c.set n v)))))
    | none => .stuck
  | _ => .stuck
def sStore (i : Nat) (fk fv : DS → Res D) : SF := fun σ => ownL i σ fun c => thenR (fv (mask σ)) σ fun v => thenR (fk (mask σ)) σ fun k => setIx i σ c k v
def sStoreV (i : Nat) (fk fv : DS → Res D) : SF := fun σ => ownL i σ fun c => thenR (fv (view σ)) σ fun v => if flat v then thenR (fk (view σ)) σ fun k => if flat k then setIx i σ c k v else .stuck else .stuck
variable {i value : Expr} {fk fv : DS → Res D}
theorem setIx_run {j : Nat} {dk dv : D} {k v : V} {a : Addr} {c : List D} (hc : σ[j]? = some (some (.ow (.list c)))) (h1 : τ[j]? = some (some (.ref a))) (I : RO X.K R0 H0 R H σ τ) (rk : Rp X.K R k dk) (rv : Rp X.K R v dv) (q : SPost X E R0 H0 Dn (setIx j σ c dk dv)) :
    rSetL (.ref a) k v H fun H4 => Dn.nx τ H4 := by
  obtain ⟨a', h1', h2, h3, xs, h4, h5⟩ := I.ow j _ hc
  rw [h1] at h1'; cases h1'
  unfold setIx at q
  split at q
  · rename_i ji
    split at q
    · rename_i n hn
      cases rk
      exact ⟨a, xs, ji, n, rfl, rfl, h4, by rw [h5.length]; exact hn, q R _ τ (I.mut (d := .list (c.set n dv)) hc h1 ⟨_, upd_same, h5.set rv n⟩)⟩
    · exact q.elim
  · exact q.elim
theorem ds_storeV (j : Nat) (hv : IsV X j x np) (hk : DE X E i fk) (hval : DE X E value fv) (hs : swapsWithSole [.Subscript (.Name x np) i pos'] value pos.line X.env = pure false := by rfl)
    (hw : swappedStores [.Subscript (.Name x np) i pos'] value X.env = pure none := by rfl) (h1 : (assignEach [.Subscript (.Name x np) i pos'] X.env).map (·.2) = [assign (.Subscript (.Name x np) i pos') X.env] := by rfl)
    (hg : ∀ v, assign (.Subscript (.Name x np) i pos') X.env v = (do
      let ov ← holding [v] (eval (.Name x np) X.env)
      let iv ← holding [v, ov] (eval i X.env)
      standAt pos'
      holding [v, ov, iv] (setItem ov iv v)
      release [v, ov, iv] []) := by intro _; rfl) :
    DS1 X E (.Assign [.Subscript (.Name x np) i pos'] value pos) (sStoreV j fk fv) := by
  obtain ⟨ta, a1, a2⟩ := hk
  obtain ⟨tb, b1, b2⟩ := hval
  refine ⟨_, ps_asg b1 (pg_sub hv a1 set_list hg) hs hw h1, fun R0 H0 σ τ R H Dn I q => ?_⟩
  obtain ⟨a, xs, c, hc, e1, h3, h4, h5, q⟩ := ownL_run I q
  refine b2 (view σ) τ (full σ τ R H) H _ I.viewed I.fullH (post_view I q fun dv v R' H' J y z => ⟨_, e1, ?_⟩)
  refine a2 (view σ) τ (full σ τ R' H') H' _ J.viewed J.fullH ?_
  have key := z
  cases w : fk (view σ) with
  | ok dk =>
    rw [w] at key
    intro k R2 H2 e2 q2
    have key2 : SPost X E R0 H0 Dn (if flat dk then setIx j σ c dk dv else .stuck) := key
    by_cases hf : flat dk = true
    · rw [if_pos hf] at key2
      obtain ⟨J2, tu⟩ := J.stepF e2
      have same : Same R' (hide σ τ R2) := fun b o e => by
        have n : ¬ owned σ τ b := fun z => by rw [(J.ownd z).1] at e; cases e
        rw [hide_n n]
        exact e2.rr _ _ (by rw [full_n n]; exact e)
      exact setIx_run hc e1 J2 (Rp.flat tu q2 hf) (y.mono same) key2
    · rw [if_neg hf] at key2; exact key2.elim
  | exc ex => rw [w] at key; exact fun cc dx H2 s y2 => key cc dx R' H2 τ (J.same s) (y2.back J.ext.hh)
  | stuck => rw [w] at key; exact key
end
end E3

namespace E3
open PySem PySem.Spec PyProof.Rows L2
open PySem.W (minD maxD min_list_data max_list_data AlikeAll readsAll_at reads_keeps)
section
variable {X : Cx} {E : WX} {sts : List Stmt}
theorem dss_stuck : DSs X E sts sStuck := ⟨_, pss_never, fun _ _ _ _ _ _ _ _ q => q.elim⟩
def noNone (ds : List D) : Bool := ds.all fun d => match d with
  | .none => false
  | _ => true
def minOk (ds : List D) : Bool := sortOk ds && noNone ds
theorem minOk_alike {ds : List D} (h : minOk ds = true) : AlikeAll ds := by
  obtain ⟨h1, h2⟩ := Bool.and_eq_true_iff.mp h
  refine ⟨fun x hx y hy => sortOk_alike h1 x hx y hy, fun x hx z => ?_⟩
  have := List.all_eq_true.mp h2 x hx
  rw [z] at this
  cases this
theorem canAll_mem : ∀ {ds : List D} {d : D}, PyData.canLayAll0 ds = true → d ∈ ds → d.canLay0 = true
  | _ :: _, _, h, .head _ => (Bool.and_eq_true_iff.mp (by simpa [PyData.canLayAll0] using h)).1
  | _ :: _, _, h, .tail _ m => canAll_mem (by simp [PyData.canLayAll0] at h; exact h.2) m
theorem depth_all : ∀ {ds : List D} {n : Nat}, (∀ d ∈ ds, d.depth ≤ n) → PyData.depthAll ds ≤ n
  | [], n, _ => by simp [PyData.depthAll]
  | d :: ds, n, h => by
    have h1 := h d List.mem_cons_self
    have h2 := depth_all fun e he => h e (List.mem_cons_of_mem _ he)
    simp only [PyData.depthAll]
    omega
def rBest (K : PySem.W.Frag) (b : D → List D → D) : List V → Hp → VK → Prop := fun vs H Q => ∃ (a : Addr) (xs : List V) (d : D) (ds : List D), vs = [.ref a] ∧ SqL K H a xs ∧ DpAll K H xs (d :: ds) ∧ minOk (d :: ds) = true ∧
  ∀ (i : Nat) (v : V), xs[i]? = some v → (d :: ds)[i]? = some (b d ds) → Q v H
theorem vals_getU : ∀ {xs : List V} {us : List Value} {i : Nat} {u : Value}, Vals xs us → us[i]? = some u → ∃ v, xs[i]? = some v ∧ RelV v u
  | _, _, _, _, .nil, e => by simp at e
  | _, _, 0, _, .cons h _, e => by simp at e; subst e; exact ⟨_, rfl, h⟩
  | _, _, i + 1, u, .cons _ r, e => by
    obtain ⟨v, h1, h2⟩ := vals_getU (i := i) (u := u) r (by simpa using e)
    exact ⟨v, by simpa using h1, h2⟩
theorem cr_minData (hc : X.calm = true) (hu : X.A.units + 70 < cLine) : CallR X (.builtin "min") (rBest X.K minD) := fun pins s σ H vs us Q I r h => by
  obtain ⟨a, xs, d, ds, rfl, hs, hd, ok, q⟩ := h
  rw [Vals.ref1 r]
  obtain ⟨its, rv, hl, hz⟩ := I.list hs
  obtain ⟨as, rd⟩ := Dp.readsAll I (d :: ds) xs its hd rv
  have ok1 := (Bool.and_eq_true_iff.mp ok).1
  have hdep := depth_all (sortOk_depth ok1)
  refine min_list_data (I.ok.hd hc) hl.isList (by simpa using rd) (minOk_alike ok) (by omega) fun i v h' tk bs hv hr hk => ?_
  have hv' : its[i]? = some v := by simpa using hv
  obtain ⟨w, hw, rw'⟩ := vals_getU rv hv'
  obtain ⟨bs', r', hi, hm, _⟩ := readsAll_at rd i v hv'
  have can : ((d :: ds).getD i .none).canLay0 = true := canAll_mem (sortOk_can ok1) hm
  have e := PySem.SeqAt.Reads.unique _ _ _ _ _ can (reads_keeps hk r') hr
  refine ⟨w, H, I.kept hk, rw', q i w hw ?_⟩
  rw [← e, List.getD_eq_getElem?_getD, List.getElem?_eq_getElem hi]; rfl
theorem cr_maxData (hc : X.calm = true) (hu : X.A.units + 70 < cLine) : CallR X (.builtin "max") (rBest X.K maxD) := fun pins s σ H vs us Q I r h => by
  obtain ⟨a, xs, d, ds, rfl, hs, hd, ok, q⟩ := h
  rw [Vals.ref1 r]
  obtain ⟨its, rv, hl, hz⟩ := I.list hs
  obtain ⟨as, rd⟩ := Dp.readsAll I (d :: ds) xs its hd rv
  have ok1 := (Bool.and_eq_true_iff.mp ok).1
  have hdep := depth_all (sortOk_depth ok1)
  refine max_list_data (I.ok.hd hc) hl.isList (by simpa using rd) (minOk_alike ok) (by omega) fun i v h' tk bs hv hr hk => ?_
  have hv' : its[i]? = some v := by simpa using hv
  obtain ⟨w, hw, rw'⟩ := vals_getU rv hv'
  obtain ⟨bs', r', hi, hm, _⟩ := readsAll_at rd i v hv'
  have can : ((d :: ds).getD i .none).canLay0 = true := canAll_mem (sortOk_can ok1) hm
  have e := PySem.SeqAt.Reads.unique _ _ _ _ _ can (reads_keeps hk r') hr
  refine ⟨w, H, I.kept hk, rw', q i w hw ?_⟩
  rw [← e, List.getD_eq_getElem?_getD, List.getElem?_eq_getElem hi]; rfl
def bestD (b : D → List D → D) : List D → Res D
  | [.list (d :: ds)] => if minOk (d :: ds) then .ok (b d ds) else .stuck
  | _ => .stuck
theorem bestD_run {b : D → List D → D} {K : PySem.W.Frag} {mg : Str → Option Value} {Ex : XK} {R H : Hp} {Q : VK} {vs : List V} {ds : List D} (r : RpA K R vs ds) (s : Same R H) (h : Post K mg Ex (rV K) R H Q (bestD b ds)) : rBest K b vs H Q := by
  match ds, r, h with
  | [.list (d :: ds)], r, h =>
    obtain ⟨v, rfl, q⟩ := one_inv r
    simp only [bestD] at h
    split at h
    · rename_i ok
      have ok1 := (Bool.and_eq_true_iff.mp ok).1
      cases q with
      | lst g1 g2 =>
        refine ⟨_, _, d, ds, rfl, (ls_same s g1).sq, (g2.mono s).dp (sortOk_can ok1), ok, fun i v hv he => ?_⟩
        obtain ⟨v', z1, z2⟩ := g2.get he
        rw [hv] at z1; cases z1
        exact Post.now s z2 h
    · exact h.elim
  | [.list []], _, h => exact h.elim
  | [], _, h => exact h.elim
  | [.none], _, h => exact h.elim
  | [.bool _], _, h => exact h.elim
  | [.int _], _, h => exact h.elim
  | [.str _], _, h => exact h.elim
  | [.tuple _], _, h => exact h.elim
  | [.dict _], _, h => exact h.elim
  | .none :: _ :: _, _, h => exact h.elim
  | .bool _ :: _ :: _, _, h => exact h.elim
  | .int _ :: _ :: _, _, h => exact h.elim
  | .str _ :: _ :: _, _, h => exact h.elim
  | .tuple _ :: _ :: _, _, h => exact h.elim
  | .dict _ :: _ :: _, _, h => exact h.elim
  | .list [] :: _ :: _, _, h => exact h.elim
  | .list (_ :: _) :: _ :: _, _, h => exact h.elim
def minTD : List D → Res D := bestD minD
def maxTD : List D → Res D := bestD maxD
theorem cd_minT (hc : X.calm = true) (hu : X.A.units + 70 < cLine) : CallD X (.builtin "min") minTD := ⟨_, cr_minData hc hu, fun vs ds R H Q Ex r s h => bestD_run r s h⟩
theorem cd_maxT (hc : X.calm = true) (hu : X.A.units + 70 < cLine) : CallD X (.builtin "max") maxTD := ⟨_, cr_maxData hc hu, fun vs ds R H Q Ex r s h => bestD_run r s h⟩
end
end E3

namespace E3
open PySem PySem.Spec PyProof.Rows L2
section
variable {X : Cx} {E : WX}
def rEqE : R2 := fun x y H Q => ∃ (a b : Addr) (kvs : List (List Key × V)), x = .ref a ∧ y = .ref b ∧ Rd H a (.dT kvs) ∧ Rd H b (.dT []) ∧ Q (.bl kvs.isEmpty) H
theorem same_empty {prog : Program} {w : World} {A : Around} {E : Value → Shared → Prop} {s : Shared} {nm : String} {a b : Addr} {oa ob : Obj} {es : Array DictEntry} {ep ep' : Nat} {Q : Bool → Shared → Prop} (ha : (a == sysModules) = false) (hb : (b == sysModules) = false)
    (hoa : s.heap.get? a = some oa) (hda : oa.data = .dict es ep) (hob : s.heap.get? b = some ob) (hdb : ob.data = .dict #[] ep') (h : Q es.isEmpty s) : wpAny (model prog w) A (Builtin.Dict.samePairs nm a b) Q E s := by
  unfold Builtin.Dict.samePairs Builtin.Dict.showsAll
  rw [if_neg (by rw [ha]; decide), if_neg (by rw [hb]; decide)]
  refine wpAny_bind (wpAny_pure (wpAny_bind (wpAny_pure (wpAny_bind (wpAny_dictEntries hoa hda ?_)))))
  dsimp only
  refine wpAny_bind (wpAny_dictEntries hob hdb ?_)
  by_cases hz : es.size = 0
  · have e : es = #[] := Array.eq_empty_of_size_eq_zero hz
    subst e
    rw [if_neg (by simp)]
    refine wpAny_bind (wpAny_dictEpoch hoa hda ?_)
    refine wpAny_bind ?_
    rw [Std.Legacy.Range.forIn_eq_forIn_range']
    exact wpAny_pure (wpAny_pure h)
  · rw [if_pos (by simpa using hz)]
    have e : es.isEmpty = false := by
      cases q : es.isEmpty with
      | false => rfl
      | true => exact absurd (by simpa using q) hz
    rw [e] at h
    exact wpAny_bind (wpAny_rule (wpAny_pure h))
theorem op_eqE (hu : X.A.units + 65 < cLine) : OpR X (compareOp .Eq) rEqE := fun pins s σ H x y v u Q I rx ry h => by
  obtain ⟨a, b, kvs, rfl, rfl, ha, hb, q⟩ := h
  cases rx
  cases ry
  obtain ⟨z1, hs1, ks1, pr1, o1, es1, ep1, ho1, hx1, hd1, he1, hn1⟩ := (show ObjOk X.prog X.w H s.heap a (.dT kvs) from ha.ok I.hok)
  obtain ⟨z2, hs2, ks2, pr2, o2, es2, ep2, ho2, hx2, hd2, he2, hn2⟩ := (show ObjOk X.prog X.w H s.heap b (.dT []) from hb.ok I.hok)
  have l1 : es1.size = ks1.length := size_of_entries he1
  have l2 : kvs.length = ks1.length := Paired.length pr1
  have l3 : es2.size = ks2.length := size_of_entries he2
  have l4 : 0 = ks2.length := Paired.length pr2
  have e2 : es2 = #[] := Array.eq_empty_of_size_eq_zero (by omega)
  subst e2
  have t1 : s.TypeIs (.ref a) "dict" := ⟨o1, ho1, hx1.1⟩
  have t2 : s.TypeIs (.ref b) "dict" := ⟨o2, ho2, hx2.1⟩
  show wpAny _ _ (richCompare .Eq (.ref a) (.ref b)) _ _ _
  refine wpAny_richCompare_same_room (op := .Eq) t1 t2 PySem.F.slot_dict_eq (wpAny_call_entry PySem.F.slot_dict_eq t1 PySem.F.entry_dict_eq ?_ (PySem.F.args_dict_eq_2 _ _)) (by omega)
  show wpAny _ _ (Builtin.Dict.dictSlotArgs "__eq__" ⟨[.ref a, .ref b], []⟩ >>= _) _ _ s
  refine wpAny_bind ?_
  unfold Builtin.Dict.dictSlotArgs
  refine wpAny_bind (wpAny_notOrdered_dict t1 (wpAny_pure ?_))
  refine wpAny_bind (wpAny_isInstance (T := "dict") t2 PySem.F.sub_dict_dict ?_)
  simp only [Bool.not_true, Bool.false_eq_true, if_false]
  refine wpAny_bind (wpAny_pure (wpAny_bind (wpAny_pure (wpAny_bind (same_empty hs1 hs2 ho1 hd1 ho2 hd2 ?_)))))
  have ei : es1.isEmpty = kvs.isEmpty := by
    cases kvs with
    | nil =>
      have : es1 = #[] := Array.eq_empty_of_size_eq_zero (by rw [l1, ← l2]; rfl)
      rw [this]; rfl
    | cons p kvs =>
      have : es1.size ≠ 0 := by rw [l1, ← l2, List.length_cons]; omega
      cases q : es1.isEmpty with
      | false => rfl
      | true => exact absurd (by simpa using q) this
  rw [ei]
  refine wpAny_pure ⟨_, rfl, (fun x => nomatch x), ?_⟩
  have eb : (kvs.isEmpty == true) = kvs.isEmpty := by cases kvs.isEmpty <;> rfl
  rw [eb]
  exact ⟨.bl kvs.isEmpty, H, I, rfl, q⟩
def eqED : D → D → Res D
  | .dict kvs, .dict [] => if obK kvs then .stuck else .ok (.bool kvs.isEmpty)
  | x, y => eqD x y
theorem od_eqE (hu : X.A.units + 65 < cLine) : OpD X (compareOp .Eq) eqED := by
  obtain ⟨r0, c0, h0⟩ := od_eq (X := X) (show X.A.units + 64 < cLine by omega)
  refine ⟨_, (op_eqE hu).or c0, fun v w x y R H Q Ex rx ry s h => ?_⟩
  by_cases hd : ∃ kvs, x = .dict kvs ∧ y = .dict []
  · obtain ⟨kvs, rfl, rfl⟩ := hd
    cases rx with
    | ob g1 g2 => cases g1 <;> exact h.elim
    | @dT a ks _ g1 g2 =>
      simp only [eqED, g2.noOb, Bool.false_eq_true, if_false] at h
      cases ry with
      | @dT b ks2 _ g3 g4 =>
        cases g4
        refine .inl ⟨a, b, ks, rfl, rfl, rd_same s g1, rd_same s g3, ?_⟩
        have e : ks.isEmpty = kvs.isEmpty := by
          cases g2 <;> rfl
        rw [e]
        exact Post.now s (Rp.bl _) h
  · refine .inr (h0 v w x y R H Q Ex rx ry s ?_)
    have e : eqED x y = eqD x y := by
      unfold eqED
      split
      · rename_i kvs
        exact absurd ⟨kvs, rfl, rfl⟩ hd
      · rfl
    rw [← e]; exact h
end
end E3


namespace E3
open PySem PySem.Spec PyProof.Rows L2

inductive XR (α : Type) where
  | ok (a : α) (σ : SS)
  | exc (e : Exn) (σ : SS)
  | stuck
def XR.bind {α β : Type} (r : XR α) (k : α → SS → XR β) : XR β := match r with
  | .ok a σ => k a σ
  | .exc e σ => .exc e σ
  | .stuck => .stuck
@[simp] theorem XR.bind_ok {α β : Type} (a : α) (σ : SS) (k : α → SS → XR β) : (XR.ok a σ).bind k = k a σ := rfl
@[simp] theorem XR.bind_exc {α β : Type} (e : Exn) (σ : SS) (k : α → SS → XR β) : (XR.exc e σ : XR α).bind k = .exc e σ := rfl
@[simp] theorem XR.bind_stuck {α β : Type} (k : α → SS → XR β) : (XR.stuck : XR α).bind k = .stuck := rfl
def XR.of {α : Type} (σ : SS) (r : Res α) : XR α := match r with
  | .ok a => .ok a σ
  | .exc e => .exc e σ
  | .stuck => .stuck
@[simp] theorem XR.of_ok {α : Type} (a : α) (σ : SS) : XR.of σ (.ok a) = .ok a σ := rfl
@[simp] theorem XR.of_exc {α : Type} (e : Exn) (σ : SS) : XR.of σ (.exc e : Res α) = .exc e σ := rfl
@[simp] theorem XR.of_stuck {α : Type} (σ : SS) : XR.of σ (.stuck : Res α) = .stuck := rfl
def thenX {α : Type} (r : XR α) (k : α → SS → SR) : SR := match r with
  | .ok a σ => k a σ
  | .exc e σ => .exc e σ
  | .stuck => .stuck
@[simp] theorem thenX_ok {α : Type} (a : α) (σ : SS) (k : α → SS → SR) : thenX (.ok a σ) k = k a σ := rfl
@[simp] theorem thenX_exc {α : Type} (e : Exn) (σ : SS) (k : α → SS → SR) : thenX (.exc e σ : XR α) k = .exc e σ := rfl
@[simp] theorem thenX_stuck {α : Type} (k : α → SS → SR) : thenX (.stuck : XR α) k = .stuck := rfl
abbrev XF := SS → XR D

def XPost {α β : Type} (X : Cx) (E : WX) (rel : Hp → β → α → Prop) (R0 H0 R : Hp) (τ : L2.St) (Q : β → Hp → Prop) : XR α → Prop
  | .ok d σ => ∀ v R' H', Same R R' → RO X.K R0 H0 R' H' σ τ → rel R' v d → Q v H'
  | .exc e σ => ∀ c dx R' H', RO X.K R0 H0 R' H' σ τ → ExL X.K X.mg H0 e c dx H' → E c dx τ H'
  | .stuck => False
structure XE (X : Cx) (E : WX) (e : Expr) (f : SS → XR D) : Prop where
  run : ∃ t : TE, PE X e t ∧ ∀ (R0 H0 : Hp) (σ : SS) (τ : L2.St) (R H : Hp) (Q : VK), RO X.K R0 H0 R H σ τ → XPost X E (rV X.K) R0 H0 R τ Q (f σ) → t τ H Q
structure XA (X : Cx) (E : WX) (es : List Expr) (f : SS → XR (List D)) : Prop where
  run : ∃ t : TA, PA X es t ∧ ∀ (R0 H0 : Hp) (σ : SS) (τ : L2.St) (R H : Hp) (Q : List V → Hp → Prop), RO X.K R0 H0 R H σ τ → XPost X E (rA X.K) R0 H0 R τ Q (f σ) → t τ H Q
structure XT (X : Cx) (E : WX) (e : Expr) (f : SS → XR Bool) : Prop where
  run : ∃ t : TT, PT X e t ∧ ∀ (R0 H0 : Hp) (σ : SS) (τ : L2.St) (R H : Hp) (Q : Bool → Hp → Prop), RO X.K R0 H0 R H σ τ → XPost X E rB R0 H0 R τ Q (f σ) → t τ H Q
structure XW (X : Cx) (E : WX) (e : Expr) (f : SS → XR Bool) : Prop where
  run : ∃ t : TT, PW X e t ∧ ∀ (R0 H0 : Hp) (σ : SS) (τ : L2.St) (R H : Hp) (Q : Bool → Hp → Prop), RO X.K R0 H0 R H σ τ → XPost X E rB R0 H0 R τ Q (f σ) → t τ H Q

section
variable {X : Cx} {E : WX} {R0 H0 R H Rb : Hp} {σ : SS} {τ : L2.St}
theorem xstep {α β : Type} {rel : Hp → β → α → Prop} {Q : β → Hp → Prop} {r : XR α} {R1 : Hp} (s : Same R R1) (h : XPost X E rel R0 H0 R τ Q r) : XPost X E rel R0 H0 R1 τ Q r := by
  cases r with
  | ok d σ => exact fun v R' H' x q => h v R' H' (s.trans x) q
  | exc x σ => exact h
  | stuck => exact h
theorem xbind {α β γ δ : Type} {rel : Hp → β → α → Prop} {rel' : Hp → δ → γ → Prop} {Q : δ → Hp → Prop} {r : XR α} {g : α → SS → XR γ} {T : β → Hp → Prop} (h : XPost X E rel' R0 H0 R τ Q (r.bind g))
    (k : ∀ d v σ' R' H', Same R R' → RO X.K R0 H0 R' H' σ' τ → rel R' v d → XPost X E rel' R0 H0 R' τ Q (g d σ') → T v H') : XPost X E rel R0 H0 R τ T r := by
  cases r with
  | ok d σ => exact fun v R' H' s I q => k d v σ R' H' s I q (xstep s h)
  | exc x σ => exact h
  | stuck => exact h
theorem xof {α β : Type} {rel : Hp → β → α → Prop} {Q : β → Hp → Prop} {r : Res α} (I : RO X.K R0 H0 R H σ τ) (h : XPost X E rel R0 H0 R τ Q (.of σ r)) : Post X.K X.mg (xat E τ) rel R H Q r := by
  cases r with
  | ok d => exact fun v R' H' x q => h v R' H' x.rr (I.step x) q
  | exc x => exact fun c dx H' s y => h c dx R H' (I.same s) (y.back I.ext.hh)
  | stuck => exact h
theorem xnow {α β : Type} {rel : Hp → β → α → Prop} {Q : β → Hp → Prop} {d : α} {v : β} (I : RO X.K R0 H0 R H σ τ) (q : rel R v d) (h : XPost X E rel R0 H0 R τ Q (.ok d σ)) : Q v H := h v R H (Same.refl _) I q
theorem same_hide {K : PySem.W.Frag} {R' H' : Hp} (I : RO K R0 H0 R H σ τ) (e : Ext (full σ τ R H) H R' H') : Same R (hide σ τ R') := fun a o q => by
  have n : ¬ owned σ τ a := fun z => by rw [(I.ownd z).1] at q; cases q
  rw [hide_n n]
  exact e.rr _ _ (by rw [full_n n]; exact q)
variable {e a b : Expr} {es : List Expr} {f g : SS → XR D} {ga : SS → XR (List D)} {pos : Pos}
def xM (f : DS → Res D) : SS → XR D := fun σ => .of σ (f (mask σ))
def flatR (r : Res D) : Res D := match r with
  | .ok d => if flat d then .ok d else .stuck
  | r => r
def xV (f : DS → Res D) : SS → XR D := fun σ => .of σ (flatR (f (view σ)))
def xB (f : DS → Res Bool) : SS → XR Bool := fun σ => .of σ (f (view σ))
theorem xe_mask {f : DS → Res D} (h : DE X E e f) : XE X E e (xM f) := by
  obtain ⟨t, h1, h2⟩ := h
  exact ⟨t, h1, fun R0 H0 σ τ R H Q I q => h2 (mask σ) τ R H Q I.mask I.ext.sub (xof I q)⟩
theorem xe_view {f : DS → Res D} (h : DE X E e f) : XE X E e (xV f) := by
  obtain ⟨t, h1, h2⟩ := h
  refine ⟨t, h1, fun R0 H0 σ τ R H Q I q => h2 (view σ) τ (full σ τ R H) H Q I.viewed I.fullH ?_⟩
  have q' : XPost X E (rV X.K) R0 H0 R τ Q (.of σ (flatR (f (view σ)))) := q
  cases z : f (view σ) with
  | ok d =>
    rw [z] at q'
    by_cases hf : flat d = true
    · rw [show flatR (Res.ok d) = .ok d from if_pos hf] at q'
      exact fun v R' H' x y => q' v _ H' (same_hide I x) (I.stepF x).1 (Rp.flat (I.stepF x).2 y hf)
    · rw [show flatR (Res.ok d) = .stuck from if_neg hf] at q'; exact q'.elim
  | exc x => rw [z] at q'; exact fun c dx H' s y => q' c dx R H' (I.same s) (y.back I.ext.hh)
  | stuck => rw [z] at q'; exact q'
theorem xt_view {f : DS → Res Bool} (h : DT X E e f) : XT X E e (xB f) := by
  obtain ⟨t, h1, h2⟩ := h
  refine ⟨t, h1, fun R0 H0 σ τ R H Q I q => h2 (view σ) τ (full σ τ R H) H Q I.viewed I.fullH ?_⟩
  have q' : XPost X E rB R0 H0 R τ Q (.of σ (f (view σ))) := q
  cases z : f (view σ) with
  | ok d =>
    rw [z] at q'
    exact fun v R' H' x y => q' v _ H' (same_hide I x) (I.stepF x).1 y
  | exc x => rw [z] at q'; exact fun c dx H' s y => q' c dx R H' (I.same s) (y.back I.ext.hh)
  | stuck => rw [z] at q'; exact q'
def x2 (o : D → D → Res D) (f g : SS → XR D) : SS → XR D := fun σ => (f σ).bind fun x σ => (g σ).bind fun y σ => .of σ (o x y)
theorem x2_run {ta tb : TE} {Q : VK} {o : D → D → Res D} {r : V → V → Hp → VK → Prop} (ha : ∀ (R0 H0 : Hp) (σ : SS) (τ : L2.St) (R H : Hp) (Q : VK), RO X.K R0 H0 R H σ τ → XPost X E (rV X.K) R0 H0 R τ Q (f σ) → ta τ H Q)
    (hb : ∀ (R0 H0 : Hp) (σ : SS) (τ : L2.St) (R H : Hp) (Q : VK), RO X.K R0 H0 R H σ τ → XPost X E (rV X.K) R0 H0 R τ Q (g σ) → tb τ H Q)
    (ho : ∀ (v w : V) (x y : D) (R H : Hp) (Q : VK) (Ex : XK), Rp X.K R v x → Rp X.K R w y → Same R H → Post X.K X.mg Ex (rV X.K) R H Q (o x y) → r v w H Q)
    (I : RO X.K R0 H0 R H σ τ) (h : XPost X E (rV X.K) R0 H0 R τ Q (x2 o f g σ)) : ta τ H fun x H1 => tb τ H1 fun y H2 => r x y H2 Q := by
  refine ha R0 H0 σ τ R H _ I (xbind h fun x v σ1 R1 H1 s1 I1 q1 h1 => ?_)
  refine hb R0 H0 σ1 τ R1 H1 _ I1 (xbind h1 fun y w σ2 R2 H2 s2 I2 q2 h2 => ?_)
  exact ho v w x y R2 H2 Q _ (q1.mono s2) q2 I2.ext.sub (xof I2 h2)
theorem xe_op {op : Operator} {o : D → D → Res D} (ho : OpD X (binaryOp op) o) (ha : XE X E a f) (hb : XE X E b g) : XE X E (.BinOp a op b pos) (x2 o f g) := by
  obtain ⟨r, hr, q⟩ := ho
  obtain ⟨ta, pa, qa⟩ := ha
  obtain ⟨tb, pb, qb⟩ := hb
  exact ⟨_, pe_op hr pa pb, fun R0 H0 σ τ R H Q I h => x2_run (r := r) qa qb q I h⟩
theorem xe_cmp {op : CmpOp} {o : D → D → Res D} (ho : OpD X (compareOp op) o) (ha : XE X E a f) (hb : XE X E b g) (hm : behindInMarks op b = false := by first | exact nobehind _ (by decide) (by decide) | rfl) : XE X E (.Compare a [op] [b] pos) (x2 o f g) := by
  obtain ⟨r, hr, q⟩ := ho
  obtain ⟨ta, pa, qa⟩ := ha
  obtain ⟨tb, pb, qb⟩ := hb
  exact ⟨_, pe_cmpR hr pa pb hm, fun R0 H0 σ τ R H Q I h => x2_run (r := r) qa qb q I h⟩
def xTB (f : SS → XR D) : SS → XR Bool := fun σ => (f σ).bind fun d σ => .of σ (asB d)
theorem xt_cmp {op : CmpOp} {o : D → D → Res D} (ho : OpD X (compareOp op) o) (ha : XE X E a f) (hb : XE X E b g) (hm : behindInMarks op b = false := by first | exact nobehind _ (by decide) (by decide) | rfl) : XT X E (.Compare a [op] [b] pos) (xTB (x2 o f g)) := by
  obtain ⟨r, hr, q⟩ := ho
  obtain ⟨ta, pa, qa⟩ := ha
  obtain ⟨tb, pb, qb⟩ := hb
  refine ⟨_, pt_cmpR hr pa pb hm, fun R0 H0 σ τ R H Q I h => ?_⟩
  exact x2_run (r := r) qa qb q I (xbind h fun x v σ1 R1 H1 s1 I1 q1 h1 => asB_run q1 I1.ext.sub (xof I1 h1))
theorem xe_ix {o : D → D → Res D} (ho : IxD X o) (ha : XE X E a f) (hb : XE X E b g) (hs : PlainIx b := by exact fun _ _ => rfl) : XE X E (.Subscript a b pos) (x2 o f g) := by
  obtain ⟨r, hr, q⟩ := ho
  obtain ⟨ta, pa, qa⟩ := ha
  obtain ⟨tb, pb, qb⟩ := hb
  exact ⟨_, pe_ix hr pa pb hs, fun R0 H0 σ τ R H Q I h => x2_run (r := r) qa qb q I h⟩
variable {p q : SS → XR Bool} {rest : List Expr}
def xAnd (p q : SS → XR Bool) : SS → XR Bool := fun σ => (p σ).bind fun b σ => if b then q σ else .ok false σ
theorem xw_and1 (ha : XT X E a p) : XW X E (.BoolOp .And [a] pos) p := by
  obtain ⟨t, h1, h2⟩ := ha
  exact ⟨t, pw_and1 h1, h2⟩
theorem xw_and (ha : XT X E a p) (hb : XW X E (.BoolOp .And (b :: rest) pos) q) : XW X E (.BoolOp .And (a :: b :: rest) pos) (xAnd p q) := by
  obtain ⟨t, h1, h2⟩ := ha
  obtain ⟨u, h3, h4⟩ := hb
  refine ⟨_, pw_and h1 h3, fun R0 H0 σ τ R H Q I h => h2 R0 H0 σ τ R H _ I (xbind (rel := rB) h fun x v σ1 R1 H1 s1 I1 q1 k => ?_)⟩
  subst q1
  cases v with
  | true => exact h4 R0 H0 σ1 τ R1 H1 Q I1 k
  | false => exact xnow I1 (rel := rB) rfl k
theorem XW.pt (h : XW X E e p) : XT X E e p := by
  obtain ⟨t, a, b⟩ := h
  exact ⟨t, a.pt, b⟩
def xNil : SS → XR (List D) := fun σ => .ok [] σ
def xCons (f : SS → XR D) (g : SS → XR (List D)) : SS → XR (List D) := fun σ => (f σ).bind fun x σ => (g σ).bind fun xs σ => .ok (x :: xs) σ
theorem xa_nil : XA X E [] xNil := ⟨_, pa_nil, fun _ _ _ _ _ _ _ I h => xnow I RpA.nil h⟩
theorem xa_cons (ha : XE X E e f) (hr : XA X E es ga) (hs : starEach (e :: es) X.env = (false, eval e X.env) :: starEach es X.env := by rfl) : XA X E (e :: es) (xCons f ga) := by
  obtain ⟨t, h1, h2⟩ := ha
  obtain ⟨u, h3, h4⟩ := hr
  refine ⟨_, pa_cons h1 h3 hs, fun R0 H0 σ τ R H Q I h => h2 R0 H0 σ τ R H _ I (xbind h fun x v σ1 R1 H1 s1 I1 q1 k => ?_)⟩
  refine h4 R0 H0 σ1 τ R1 H1 _ I1 (xbind k fun xs vs σ2 R2 H2 s2 I2 q2 k2 => ?_)
  exact xnow I2 (RpA.cons (q1.mono s2) q2) k2
def xTup (g : SS → XR (List D)) : SS → XR D := fun σ => (g σ).bind fun ds σ => .of σ (tupD ds)
theorem xe_tup {x1} (h : XA X E es ga) : XE X E (.Tuple es x1 pos) (xTup ga) := by
  obtain ⟨t, h1, h2⟩ := h
  refine ⟨_, pe_tup h1, fun R0 H0 σ τ R H Q I h => h2 R0 H0 σ τ R H _ I (xbind h fun xs vs σ1 R1 H1 s1 I1 q1 k => ?_)⟩
  have k' := xof I1 k
  unfold tupD at k'
  by_cases hl : xs.length ≤ sizeLine
  · rw [if_pos hl] at k'
    exact ⟨by rw [q1.length]; exact hl, fun p hp => new_tup q1 I1.ext.sub hp k'⟩
  · rw [if_neg hl] at k'; exact k'.elim
def xLst (g : SS → XR (List D)) : SS → XR D := fun σ => (g σ).bind fun ds σ => .of σ (lstD ds)
theorem xe_lst (h : XA X E es ga) : XE X E (.List es pos) (xLst ga) := by
  obtain ⟨t, h1, h2⟩ := h
  refine ⟨_, pe_lst h1, fun R0 H0 σ τ R H Q I h => h2 R0 H0 σ τ R H _ I (xbind h fun xs vs σ1 R1 H1 s1 I1 q1 k => ?_)⟩
  have k' := xof I1 k
  unfold lstD at k'
  by_cases hl : xs.length ≤ sizeLine
  · rw [if_pos hl] at k'
    exact ⟨by rw [q1.length]; exact hl, fun p hp => new_lst q1 I1.ext.sub hp k'⟩
  · rw [if_neg hl] at k'; exact k'.elim
def xSl (f : SS → XR D) (lo hi : DS → Res (Option Int)) : SS → XR D := fun σ => (f σ).bind fun x σ => .of σ ((lo (mask σ)).bind fun l => (hi (mask σ)).bind fun u => slD x l u)
theorem xe_slice {lo hi : Option Expr} {fl fh : DS → Res (Option Int)} {p2 : Pos} (he : XE X E e f) (hl : DO X E lo fl) (hh : DO X E hi fh) : XE X E (.Subscript e (.Slice lo hi none p2) pos) (xSl f fl fh) := by
  obtain ⟨te, e1, e2⟩ := he
  obtain ⟨tl, l1, l2⟩ := hl
  obtain ⟨th, h1, h2⟩ := hh
  refine ⟨_, pe_slice (sl_list.or sl_tupA) e1 l1 h1, fun R0 H0 σ τ R H Q I h => ?_⟩
  refine e2 R0 H0 σ τ R H _ I (xbind h fun x v σ1 R1 H1 s1 I1 q1 k1 => ?_)
  refine l2 (mask σ1) τ R1 H1 _ I1.mask I1.ext.sub (post_bind I1.ext.sub (xof I1 k1) fun l l' R2 H2 x2 q2 k2 => ?_)
  subst q2
  refine h2 (mask σ1) τ R2 H2 _ (I1.mask.mono x2.rr) x2.sub (post_bind x2.sub k2 fun u u' R3 H3 x3 q3 k3 => ?_)
  subst q3
  have q4 := (q1.mono x2.rr).mono x3.rr
  cases q4 with
  | lst z1 z2 => exact .inl ⟨_, _, rfl, (ls_same x3.sub z1).sq, fun p hp => new_lst (z2.cut _ _) x3.sub hp k3⟩
  | tup z1 z2 =>
    rename_i a xs ds
    refine .inr ⟨a, xs, rfl, SqT.of (x3.sub _ _ z1), fun w => ?_, fun _ p hp => new_tup (z2.cut _ _) x3.sub hp k3⟩
    have k3' : Post X.K X.mg (xat E τ) (rV X.K) R3 H3 Q (.ok (.tuple (E3.cutD ds l' u'))) := k3
    rw [cutD_whole (by rw [← z2.length]; exact w)] at k3'
    exact Post.now x3.sub (Rp.tup z1 z2) k3'
  | _ => exact k3.elim
def xCall (F : List D → Res D) (g : SS → XR (List D)) : SS → XR D := fun σ => (g σ).bind fun ds σ => .of σ (F ds)
variable {k : Nat} {fa : Addr} {fd : FuncData} {ps : List Str} {F : List D → Res D} {x : Str} {p1 : Pos}
theorem xe_call (G : FnD X.prog X.w X.K X.mg X.base k fa fd ps F) (hr : Room k X.A) (hg : Gl X x) (hm : X.mg x = some (.ref fa)) (hk : PySem.W.keepIn X.K (.ref fa) = true) (hb : Binds X.K fd ps []) (tk : Takes X E)
    (hF : ∀ ds, ds.length ≠ ps.length → F ds = .stuck) (ha : XA X E (e :: es) ga) (hdb : (x == ("__debug__" : Str)) = false := by decide) (he : starEach (e :: es) X.env = (false, eval e X.env) :: starEach es X.env := by rfl) (hpl : (backTo pos (starEach es X.env)).any (·.1) = false := by rfl) :
    XE X E (.Call (.Name x p1) (e :: es) [] pos) (xCall F ga) := by
  obtain ⟨t, a1, a2⟩ := ha
  refine ⟨_, pe_callS G hr hg hm hk hb (fun σ => passAt tk σ) a1 hdb he hpl, fun R0 H0 σ τ R H Q I h => a2 R0 H0 σ τ R H _ I (xbind h fun d v σ1 R1 H1 s1 I1 q1 h1 => ?_)⟩
  have h1' := xof I1 h1
  refine ⟨?_, R1, d, I1.ext.sub, q1, h1'⟩
  by_cases hl : d.length = ps.length
  · rw [q1.length]; exact hl
  · rw [hF d hl] at h1'; exact h1'.elim
variable {id T : String}
theorem xe_callB {o : List D → Res D} (ho : CallD X (.builtin id) o) (hg : Gl X x) (hm : X.mg x = none) (hv : bootBuiltins x = some (.builtin id)) (ha : XA X E (e :: es) ga) (hn : x ≠ "__name__" := by decide) (hdb : (x == ("__debug__" : Str)) = false := by decide)
    (he : starEach (e :: es) X.env = (false, eval e X.env) :: starEach es X.env := by rfl) (hpl : (backTo pos (starEach es X.env)).any (·.1) = false := by rfl) :
    XE X E (.Call (.Name x p1) (e :: es) [] pos) (xCall o ga) := by
  obtain ⟨r, hr, q⟩ := ho
  obtain ⟨t, a1, a2⟩ := ha
  exact ⟨_, pe_callB hr hg hm hv a1 hn hdb he hpl, fun R0 H0 σ τ R H Q I h => a2 R0 H0 σ τ R H _ I (xbind h fun d v σ1 R1 H1 s1 I1 q1 h1 => q v d R1 H1 Q _ q1 I1.ext.sub (xof I1 h1))⟩
theorem xe_callTy {o : List D → Res D} (ho : CallD X (.type T) o) (hg : Gl X x) (hm : X.mg x = none) (hv : bootBuiltins x = some (.type T)) (ha : XA X E (e :: es) ga) (hn : x ≠ "__name__" := by decide) (hdb : (x == ("__debug__" : Str)) = false := by decide)
    (he : starEach (e :: es) X.env = (false, eval e X.env) :: starEach es X.env := by rfl) (hpl : (backTo pos (starEach es X.env)).any (·.1) = false := by rfl) :
    XE X E (.Call (.Name x p1) (e :: es) [] pos) (xCall o ga) := by
  obtain ⟨r, hr, q⟩ := ho
  obtain ⟨t, a1, a2⟩ := ha
  exact ⟨_, pe_callTy hr hg hm hv a1 hn hdb he hpl, fun R0 H0 σ τ R H Q I h => a2 R0 H0 σ τ R H _ I (xbind h fun d v σ1 R1 H1 s1 I1 q1 h1 => q v d R1 H1 Q _ q1 I1.ext.sub (xof I1 h1))⟩
end

def less (H : Hp) (a : Addr) : Hp := fun b => if b = a then none else H b
theorem less_at {H : Hp} {a : Addr} : less H a a = none := if_pos rfl
theorem less_ne {H : Hp} {a b : Addr} (h : b ≠ a) : less H a b = H b := if_neg h
abbrev PF := List D → List D → Res (D × List D)
def PostP (K : PySem.W.Frag) (a : Addr) (R H : Hp) (Q : VK) : Res (D × List D) → Prop
  | .ok (d, c) => ∀ v R' H' xs, Ext R (less H a) R' H' → R' a = none → H' a = some (.lst xs) → RpA K R' xs c → Rp K R' v d → Q v H'
  | _ => False
def spP (K : PySem.W.Frag) (n : Nat) (F : PF) : Sp := fun vs H Q _ =>
  vs.length = n ∧ ∃ a ws R c xs ds, vs = .ref a :: ws ∧ H a = some (.lst xs) ∧ R a = none ∧ RpA K R xs c ∧ Same R H ∧ RpA K R ws ds ∧ PostP K a R H Q (F c ds)
abbrev FnP (P : Program) (w : World) (K : PySem.W.Frag) (mg : Str → Option Value) (base : Heap) (k : Nat) (f : Addr) (fd : FuncData) (ps : List Str) (F : PF) : Prop :=
  FnOk P w K mg base (L2.CX P w) k f fd ps (spP K ps.length F)
theorem RO.pot {K : PySem.W.Frag} {R0 H0 R H R' H' : Hp} {σ : SS} {τ : L2.St} {i : Nat} {a : Addr} {c c' : List D} {xs : List V} (I : RO K R0 H0 R H σ τ) (hc : σ[i]? = some (some (.ow (.list c)))) (ht : τ[i]? = some (some (.ref a)))
    (e : Ext R (less H a) R' H') (hR : R' a = none) (hH : H' a = some (.lst xs)) (hx : RpA K R' xs c') : RO K R0 H0 R' H' (σ.set i (some (.ow (.list c')))) τ := by
  obtain ⟨a', q1, q2, q3, q4⟩ := I.ow i _ hc
  rw [ht] at q1; cases q1
  have hl : i < σ.length := (List.getElem?_eq_some_iff.mp hc).1
  refine ⟨⟨I.ext.rr.trans e.rr, e.sub, fun b o h => ?_, fun b o h => ?_⟩, fun j d h => ?_, fun j d h => ?_, fun j k d' d b z1 z2 z3 z4 => ?_, by rw [List.length_set]; exact I.len⟩
  · have nb : b ≠ a := fun z => by rw [z, q3] at h; cases h
    exact e.hh _ _ (by rw [less_ne nb]; exact I.ext.hh _ _ h)
  · rcases e.new b o h with z | z | z
    · exact I.ext.new b o z
    · by_cases nb : b = a
      · rw [nb, hR] at h; cases h
      · rw [less_ne nb] at z; exact .inr (.inl (I.ext.hh.free z))
    · exact .inr (.inr z)
  · by_cases hj : i = j
    · subst hj; rw [List.getElem?_set_self hl] at h; cases h
    · rw [List.getElem?_set_ne hj] at h
      obtain ⟨v, y1, y2⟩ := I.sh j d h
      exact ⟨v, y1, y2.mono e.rr⟩
  · by_cases hj : i = j
    · subst hj; rw [List.getElem?_set_self hl] at h; cases h
      exact ⟨a, ht, hR, q3, xs, hH, hx⟩
    · rw [List.getElem?_set_ne hj] at h
      obtain ⟨b, r1, r2, r3, r4⟩ := I.ow j d h
      have nb : b ≠ a := fun z => by subst z; exact hj (I.ne i j _ d b hc h ht r1)
      have keep : ∀ o, H b = some o → H' b = some o := fun o y => e.hh _ _ (by rw [less_ne nb]; exact y)
      obtain ⟨o', z1, z2, z3⟩ := r4.some
      refine ⟨b, r1, ?_, r3, ?_⟩
      · cases q : R' b with
        | none => rfl
        | some o =>
          rcases e.new b o q with z | z | ⟨ys, z⟩
          · rw [r2] at z; cases z
          · rw [less_ne nb, z1] at z; cases z
          · have w1 := keep _ z1
            rw [e.sub _ _ q] at w1; cases w1
            exact absurd z (z2 ys)
      · cases d with
        | list ds =>
          obtain ⟨vs, y1, y2⟩ := r4
          exact ⟨vs, keep _ y1, y2.mono e.rr⟩
        | dict kvs =>
          obtain ⟨vs, y1, y2⟩ := r4
          exact ⟨vs, keep _ y1, y2.mono e.rr⟩
        | _ => exact r4.elim
  · have back : ∀ m (x : D), (σ.set i (some (Slot.ow (.list c'))))[m]? = some (some (Slot.ow x)) → ∃ y, σ[m]? = some (some (Slot.ow y)) := fun m x h => by
      by_cases hm : i = m
      · subst hm; exact ⟨_, hc⟩
      · rw [List.getElem?_set_ne hm] at h; exact ⟨x, h⟩
    obtain ⟨y1, w1⟩ := back _ _ z1
    obtain ⟨y2, w2⟩ := back _ _ z2
    exact I.ne j k y1 y2 b w1 w2 z3 z4
def potK (i : Nat) (σ : SS) (F : List D → Res (D × List D)) : XR D := match σ[i]? with
  | some (some (.ow (.list c))) => match F c with
    | .ok (d, c') => .ok d (σ.set i (some (.ow (.list c'))))
    | _ => .stuck
  | _ => .stuck
def ownX {α : Type} (i : Nat) (σ : SS) (k : XR α) : XR α := match σ[i]? with
  | some (some (.ow (.list _))) => k
  | _ => .stuck
def xPot (i : Nat) (F : PF) (g : SS → XR (List D)) : SS → XR D := fun σ => ownX i σ ((g σ).bind fun ds σ => potK i σ fun c => F c ds)
section
variable {X : Cx} {E : WX} {e : Expr} {es : List Expr} {ga : SS → XR (List D)} {pos p1 np : Pos} {k : Nat} {fa : Addr} {fd : FuncData} {ps : List Str} {F : PF} {x y : Str}
theorem xe_pot (i : Nat) (hv : IsV X i y np) (G : FnP X.prog X.w X.K X.mg X.base k fa fd ps F) (hr : Room k X.A) (hg : Gl X x) (hm : X.mg x = some (.ref fa)) (hk : PySem.W.keepIn X.K (.ref fa) = true) (hb : Binds X.K fd ps []) (tk : Takes X E)
    (hF : ∀ c ds, ds.length + 1 ≠ ps.length → F c ds = .stuck) (ha : XA X E es ga) (hdb : (x == ("__debug__" : Str)) = false := by decide)
    (hst : starEach (.Name y np :: es) X.env = (false, eval (.Name y np) X.env) :: starEach es X.env := by rfl) (hpl : (backTo pos (starEach es X.env)).any (·.1) = false := by rfl) :
    XE X E (.Call (.Name x p1) (.Name y np :: es) [] pos) (xPot i F ga) := by
  obtain ⟨t, a1, a2⟩ := ha
  refine ⟨_, pe_callS (E := fun σ c d H => E c d σ H) G hr hg hm hk hb (fun σ => passAt tk σ) (pa_cons hv a1 hst) hdb hst hpl, fun R0 H0 σ τ R H Q I h => ?_⟩
  unfold xPot ownX at h
  split at h
  · rename_i c0 hc0
    obtain ⟨a, ht, _, _, _⟩ := I.ow i _ hc0
    refine ⟨_, ht, a2 R0 H0 σ τ R H _ I (xbind h fun ds vs σ1 R1 H1 s1 I1 q1 h1 => ?_)⟩
    unfold potK at h1
    split at h1
    · rename_i c hc
      obtain ⟨a', ht', r2, r3, xs, r4, r5⟩ := I1.ow i _ hc
      rw [ht] at ht'; cases ht'
      cases z : F c ds with
      | ok dc =>
        obtain ⟨d, c'⟩ := dc
        dsimp only at h1
        rw [z] at h1
        have hl : ds.length + 1 = ps.length := by
          by_cases hl : ds.length + 1 = ps.length
          · exact hl
          · rw [hF c ds hl] at z; cases z
        refine ⟨by rw [List.length_cons, q1.length]; exact hl, a, vs, R1, c, xs, ds, rfl, r4, r2, r5, I1.ext.sub, q1, ?_⟩
        rw [z]
        exact fun v R' H' ys x2 n1 n2 n3 n4 => h1 v R' H' x2.rr (I1.pot hc ht x2 n1 n2 n3) n4
      | exc _ => dsimp only at h1; rw [z] at h1; exact h1.elim
      | stuck => dsimp only at h1; rw [z] at h1; exact h1.elim
    · exact h1.elim
  · exact h.elim
end
end E3

namespace E3
open PySem PySem.Spec PyProof.Rows L2

def Fr (ps : List Nat) (τ0 τ : L2.St) : Prop := ∀ p ∈ ps, τ[p]? = τ0[p]?
inductive RK where
  | dat
  | new
  | pot (p : Nat)
def RK.at (K : PySem.W.Frag) (R0 H0 : Hp) (τ0 : L2.St) (σ : SS) (d : D) (v : V) (R H : Hp) (τ : L2.St) : RK → Prop
  | .dat => Ext R0 H0 R H ∧ Rp K R v d
  | .new => ∃ a, v = .ref a ∧ Ext R0 H0 R H ∧ R a = none ∧ H0 a = none ∧ Own K R H a d
  | .pot p => RO K R0 H0 R H σ τ ∧ τ[p]? = τ0[p]? ∧ Rp K R v d
theorem RK.outof {K : PySem.W.Frag} {R0 H0 R1 H1 : Hp} {τ0 : L2.St} {σ : SS} {d : D} {v : V} {R H : Hp} {τ : L2.St} (e1 : Ext R0 H0 R1 H1) : ∀ {k : RK}, k.at K R1 (un H0 R1) τ0 σ d v R H τ → k.at K R0 H0 τ0 σ d v R H τ
  | .dat, ⟨h1, h2⟩ => ⟨e1.outof h1, h2⟩
  | .new, ⟨a, h1, h2, h3, h4, h5⟩ => ⟨a, h1, e1.outof h2, h3, (un_none.mp h4).1, h5⟩
  | .pot p, ⟨h1, h2, h3⟩ => ⟨h1.outof e1, h2, h3⟩
def QPost (X : Cx) (E : WX) (ps : List Nat) (rk : RK) (τ0 : L2.St) (R0 H0 : Hp) (Dn : Ends) : SR → Prop
  | .ok .nx σ => ∀ R H τ, RO X.K R0 H0 R H σ τ → Fr ps τ0 τ → Dn.nx τ H
  | .ok .bk σ => ∀ R H τ, RO X.K R0 H0 R H σ τ → Fr ps τ0 τ → Dn.bk τ H
  | .ok .ct σ => ∀ R H τ, RO X.K R0 H0 R H σ τ → Fr ps τ0 τ → Dn.ct τ H
  | .ok (.rt d) σ => ∀ v R H τ, rk.at X.K R0 H0 τ0 σ d v R H τ → Dn.rt v H
  | .exc x σ => ∀ c dx R H τ, RO X.K R0 H0 R H σ τ → ExL X.K X.mg H0 x c dx H → E c dx τ H
  | .stuck => False
structure DQ1 (X : Cx) (E : WX) (ps : List Nat) (rk : RK) (st : Stmt) (g : SF) : Prop where
  run : ∃ t : TS, PS X st t ∧ ∀ (R0 H0 : Hp) (τ0 : L2.St) (σ : SS) (τ : L2.St) (R H : Hp) (Dn : Ends), RO X.K R0 H0 R H σ τ → Fr ps τ0 τ → QPost X E ps rk τ0 R0 H0 Dn (g σ) → t Dn τ H
structure DQs (X : Cx) (E : WX) (ps : List Nat) (rk : RK) (st : List Stmt) (g : SF) : Prop where
  run : ∃ t : TS, PSs X st t ∧ ∀ (R0 H0 : Hp) (τ0 : L2.St) (σ : SS) (τ : L2.St) (R H : Hp) (Dn : Ends), RO X.K R0 H0 R H σ τ → Fr ps τ0 τ → QPost X E ps rk τ0 R0 H0 Dn (g σ) → t Dn τ H
def noRet : SR → Prop
  | .ok (.rt _) _ => False
  | _ => True
section
variable {X : Cx} {E : WX} {ps : List Nat} {rk : RK} {st : Stmt} {sts : List Stmt} {e a b : Expr} {g h : SF} {pos pos' : Pos} {R0 H0 R H : Hp} {τ0 τ : L2.St} {σ : SS} {Dn : Ends}
theorem dq_lift (h : DS1 X E st g) : DQ1 X E [] .dat st g := by
  obtain ⟨t, h1, h2⟩ := h
  refine ⟨t, h1, fun R0 H0 τ0 σ τ R H Dn I _ q => h2 R0 H0 σ τ R H Dn I ?_⟩
  cases z : g σ with
  | ok o σ' =>
    rw [z] at q
    cases o with
    | nx => exact fun R H τ J => q R H τ J (fun _ w => (by cases w))
    | bk => exact fun R H τ J => q R H τ J (fun _ w => (by cases w))
    | ct => exact fun R H τ J => q R H τ J (fun _ w => (by cases w))
    | rt d => exact fun v R H x y => q v R H τ ⟨x, y⟩
  | exc x σ' => rw [z] at q; exact q
  | stuck => rw [z] at q; exact q
theorem dq_lift0 {rk : RK} (h : DS1 X E st g) (hn : ∀ σ, noRet (g σ)) : DQ1 X E [] rk st g := by
  obtain ⟨t, h1, h2⟩ := h
  refine ⟨t, h1, fun R0 H0 τ0 σ τ R H Dn I _ q => h2 R0 H0 σ τ R H Dn I ?_⟩
  have hn' := hn σ
  cases z : g σ with
  | ok o σ' =>
    rw [z] at q hn'
    cases o with
    | nx => exact fun R H τ J => q R H τ J (fun _ w => (by cases w))
    | bk => exact fun R H τ J => q R H τ J (fun _ w => (by cases w))
    | ct => exact fun R H τ J => q R H τ J (fun _ w => (by cases w))
    | rt d => exact hn'.elim
  | exc x σ' => rw [z] at q; exact q
  | stuck => rw [z] at q; exact q
theorem Fr.set {i : Nat} {x : Option V} (h : Fr ps τ0 τ) (hi : i ∉ ps) : Fr ps τ0 (τ.set i x) := fun p hp => by
  rw [List.getElem?_set_ne (fun z : i = p => hi (by rw [z]; exact hp))]; exact h p hp
theorem wipe_ne (τ : L2.St) {j : Nat} : ∀ {vs : List Nat}, j ∉ vs → (wipe τ vs)[j]? = τ[j]? := fun {vs} h => by
  rw [wipe_get, if_neg (fun z => h z.1)]
theorem Fr.wp {ix : List Nat} {τ' : L2.St} (h : Fr ps τ0 τ) (w : Wp ix τ τ') (hi : ∀ p ∈ ps, p ∉ ix) : Fr ps τ0 τ' := fun p hp => by
  have e := congrArg (fun l : L2.St => l[p]?) (w ix fun _ z => z)
  have e : (wipe τ' ix)[p]? = (wipe τ ix)[p]? := e
  rw [wipe_ne τ' (hi p hp), wipe_ne τ (hi p hp)] at e
  rw [e]; exact h p hp
theorem dqs_nil : DQs X E ps rk [] sNil := ⟨_, pss_nil, fun _ _ _ _ _ _ _ _ I F q => q _ _ _ I F⟩
theorem dqs_one (a : DQ1 X E ps rk st g) : DQs X E ps rk [st] g := by
  obtain ⟨t, h1, h2⟩ := a
  exact ⟨t, pss_one h1, h2⟩
theorem dqs_cons (a : DQ1 X E ps rk st g) (b : DQs X E ps rk sts h) : DQs X E ps rk (st :: sts) (sSeq g h) := by
  obtain ⟨t, h1, h2⟩ := a
  obtain ⟨u, h3, h4⟩ := b
  refine ⟨_, pss_cons h1 h3, fun R0 H0 τ0 σ τ R H Dn I F q => h2 R0 H0 τ0 σ τ R H _ I F ?_⟩
  unfold sSeq at q
  cases z : g σ with
  | ok o σ' =>
    rw [z] at q
    cases o with
    | nx => exact fun R' H' τ' J F' => h4 R0 H0 τ0 σ' τ' R' H' Dn J F' q
    | bk => exact q
    | ct => exact q
    | rt d => exact q
  | exc x σ' => rw [z] at q; exact q
  | stuck => rw [z] at q; exact q
theorem dqs_freeze (i : Nat) (b : DQs X E ps rk sts h) : DQs X E ps rk sts (sFreeze i h) := by
  obtain ⟨u, h3, h4⟩ := b
  refine ⟨u, h3, fun R0 H0 τ0 σ τ R H Dn I F q => ?_⟩
  unfold sFreeze at q
  split at q
  · rename_i c z
    obtain ⟨R', J⟩ := I.freeze z
    exact h4 R0 H0 τ0 _ τ R' H Dn J F q
  · exact h4 R0 H0 τ0 σ τ R H Dn I F q
theorem dq_pass : DQ1 X E ps rk (.Pass pos) sNil := ⟨_, ps_pass, fun _ _ _ _ _ _ _ _ I F q => q _ _ _ I F⟩
theorem dq_break : DQ1 X E ps rk (.Break pos) sBreak := ⟨_, ps_break, fun _ _ _ _ _ _ _ _ I F q => q _ _ _ I F⟩
theorem dq_cont : DQ1 X E ps rk (.Continue pos) sCont := ⟨_, ps_continue, fun _ _ _ _ _ _ _ _ I F q => q _ _ _ I F⟩
theorem xthen {α β : Type} {rel : Hp → β → α → Prop} {r : XR α} {k : α → SS → SR} {T : β → Hp → Prop} (q : QPost X E ps rk τ0 R0 H0 Dn (thenX r k))
    (z : ∀ d v σ' R' H', Same R R' → RO X.K R0 H0 R' H' σ' τ → rel R' v d → QPost X E ps rk τ0 R0 H0 Dn (k d σ') → T v H') : XPost X E rel R0 H0 R τ T r := by
  cases r with
  | ok d σ => exact fun v R' H' s I y => z d v σ R' H' s I y q
  | exc x σ => exact fun c dx R' H' I y => q c dx R' H' τ I y
  | stuck => exact q
def qRet (f : SS → XR D) : SF := fun σ => thenX (f σ) fun d σ => .ok (.rt d) σ
theorem dq_ret {f : SS → XR D} (he : XE X E e f) : DQ1 X E ps .dat (.Return (some e) pos) (qRet f) := by
  obtain ⟨t, h1, h2⟩ := he
  exact ⟨_, ps_ret h1, fun R0 H0 τ0 σ τ R H Dn I F q => h2 R0 H0 σ τ R H _ I (xthen q fun d v σ' R' H' s J y k => k v R' H' τ ⟨J.ext, y⟩)⟩
theorem dq_retP {f : SS → XR D} {p : Nat} (he : XE X E e f) (hp : p ∈ ps) : DQ1 X E ps (.pot p) (.Return (some e) pos) (qRet f) := by
  obtain ⟨t, h1, h2⟩ := he
  exact ⟨_, ps_ret h1, fun R0 H0 τ0 σ τ R H Dn I F q => h2 R0 H0 σ τ R H _ I (xthen q fun d v σ' R' H' s J y k => k v R' H' τ ⟨J, F p hp, y⟩)⟩
theorem dq_retN {f : DS → Res D} (he : DN X E e f) : DQ1 X E ps .new (.Return (some e) pos) (qRet (xM f)) := by
  obtain ⟨t, h1, h2⟩ := he
  refine ⟨_, ps_ret h1, fun R0 H0 τ0 σ τ R H Dn I F q => h2 (mask σ) τ R H _ I.mask I.ext.sub ?_⟩
  unfold qRet xM at q
  cases z : f (mask σ) with
  | ok d =>
    rw [z] at q
    exact fun a R' H' x n1 n2 w => q (.ref a) R' H' τ ⟨a, rfl, I.ext.trans x, n1, I.ext.hh.free n2, w⟩
  | exc x => rw [z] at q; exact fun c dx H' s y => q c dx R H' τ (I.same s) (y.back I.ext.hh)
  | stuck => rw [z] at q; exact q
def qIf (p : SS → XR Bool) (g h : SF) : SF := fun σ => thenX (p σ) fun b σ => if b then g σ else h σ
theorem dq_if {c : Expr} {s1 s2 : List Stmt} {p : SS → XR Bool} (hc : XT X E c p) (ha : DQs X E ps rk s1 g) (hb : DQs X E ps rk s2 h) : DQ1 X E ps rk (.If c s1 s2 pos) (qIf p g h) := by
  obtain ⟨t, h1, h2⟩ := hc
  obtain ⟨ta, a1, a2⟩ := ha
  obtain ⟨tb, b1, b2⟩ := hb
  refine ⟨_, ps_if h1 a1 b1, fun R0 H0 τ0 σ τ R H Dn I F q => h2 R0 H0 σ τ R H _ I (xthen (rel := rB) q fun d v σ' R' H' s J y k => ?_)⟩
  subst y
  cases v with
  | true => exact a2 R0 H0 τ0 σ' τ R' H' Dn J F k
  | false => exact b2 R0 H0 τ0 σ' τ R' H' Dn J F k
variable {x y : Str} {i : Nat}
def qSet (i : Nat) (f : SS → XR D) : SF := fun σ => thenX (f σ) fun d σ => .ok .nx (σ.set i (some (.sh d)))
theorem dq_set {f : SS → XR D} (i : Nat) (hN : X.N.Nodup) (hi : X.N[i]? = some x) (hx : Loc X.env.scope x) (he : XE X E e f) (hp : i ∉ ps := by decide) (hs : swapsWith e (some (.Name x pos')) pos.line X.env = pure false := by rfl) (hf : X.fn x = true ∨ X.env.scope.names.lookup x = some .local := by first | exact .inl rfl | exact .inr rfl | assumption) :
    DQ1 X E ps rk (.Assign [.Name x pos'] e pos) (qSet i f) := by
  obtain ⟨t, e1, e2⟩ := he
  exact ⟨_, ps_set hN hi hx e1 hs hf, fun R0 H0 τ0 σ τ R H Dn I F q => e2 R0 H0 σ τ R H _ I (xthen q fun d v σ' R' H' s J y z => z _ _ _ (J.put y) (F.set hp))⟩
def qNew (i : Nat) (f : DS → Res D) : SF := sNew i f
theorem dq_new {f : DS → Res D} (i : Nat) (hN : X.N.Nodup) (hi : X.N[i]? = some x) (hx : Loc X.env.scope x) (he : DN X E e f) (hp : i ∉ ps := by decide) (hs : swapsWith e (some (.Name x pos')) pos.line X.env = pure false := by rfl) (hf : X.fn x = true ∨ X.env.scope.names.lookup x = some .local := by first | exact .inl rfl | exact .inr rfl | assumption) :
    DQ1 X E ps rk (.Assign [.Name x pos'] e pos) (sNew i f) := by
  obtain ⟨t, e1, e2⟩ := he
  refine ⟨_, ps_set hN hi hx e1 hs hf, fun R0 H0 τ0 σ τ R H Dn I F q => e2 (mask σ) τ R H _ I.mask I.ext.sub ?_⟩
  unfold sNew at q
  cases z : f (mask σ) with
  | ok d =>
    rw [z] at q
    exact fun a R' H' x n1 n2 w => q R' H' _ ((I.step x).putO n1 (I.ext.hh.free n2) w (RO.notOwned I n2)) (F.set hp)
  | exc x => rw [z] at q; exact fun c dx H' s y => q c dx R H' τ (I.same s) (y.back I.ext.hh)
  | stuck => rw [z] at q; exact q
theorem dq_newV {f : DS → Res D} (i : Nat) (hN : X.N.Nodup) (hi : X.N[i]? = some x) (hx : Loc X.env.scope x) (he : DN X E e f) (hp : i ∉ ps := by decide) (hs : swapsWith e (some (.Name x pos')) pos.line X.env = pure false := by rfl) (hf : X.fn x = true ∨ X.env.scope.names.lookup x = some .local := by first | exact .inl rfl | exact .inr rfl | assumption) :
    DQ1 X E ps rk (.Assign [.Name x pos'] e pos) (sNewV i f) := by
  obtain ⟨t, e1, e2⟩ := he
  refine ⟨_, ps_set hN hi hx e1 hs hf, fun R0 H0 τ0 σ τ R H Dn I F q => e2 (view σ) τ (full σ τ R H) H _ I.viewed I.fullH ?_⟩
  unfold sNewV at q
  cases z : f (view σ) with
  | ok d =>
    rw [z] at q
    have q' : QPost X E ps rk τ0 R0 H0 Dn (if flatC d then .ok .nx (σ.set i (some (.ow d))) else .stuck) := q
    by_cases hf : flatC d = true
    · rw [if_pos hf] at q'
      refine fun a R' H' x n1 n2 w => ?_
      obtain ⟨J, tu⟩ := I.stepF x
      have na : ¬ owned σ τ a := RO.notOwned I n2
      refine q' _ H' _ (J.putO (by rw [hide_n na]; exact n1) (I.ext.hh.free n2) ?_ na) (F.set hp)
      cases d with
      | list ds =>
        obtain ⟨vs, w1, w2⟩ := w
        exact ⟨vs, w1, RpA.flat tu w2 hf⟩
      | _ => cases hf
    · rw [if_neg hf] at q'; exact q'.elim
  | exc x => rw [z] at q; exact fun c dx H' s y => q c dx R H' τ (I.same s) (y.back I.ext.hh)
  | stuck => rw [z] at q; exact q
def qNewL (i : Nat) (ga : SS → XR (List D)) : SF := fun σ => thenX (ga σ) fun ds σ => if ds.length ≤ sizeLine then .ok .nx (σ.set i (some (.ow (.list ds)))) else .stuck
theorem dq_newL {es : List Expr} {ga : SS → XR (List D)} {lp : Pos} (i : Nat) (hN : X.N.Nodup) (hi : X.N[i]? = some x) (hx : Loc X.env.scope x) (he : XA X E es ga) (hp : i ∉ ps := by decide) (hs : swapsWith (.List es lp) (some (.Name x pos')) pos.line X.env = pure false := by rfl) (hf : X.fn x = true ∨ X.env.scope.names.lookup x = some .local := by first | exact .inl rfl | exact .inr rfl | assumption) :
    DQ1 X E ps rk (.Assign [.Name x pos'] (.List es lp) pos) (qNewL i ga) := by
  obtain ⟨t, e1, e2⟩ := he
  refine ⟨_, ps_set hN hi hx (pe_lst e1) hs hf, fun R0 H0 τ0 σ τ R H Dn I F q => e2 R0 H0 σ τ R H _ I (xthen q fun ds vs σ' R' H' s J y z => ?_)⟩
  by_cases hl : ds.length ≤ sizeLine
  · rw [if_pos hl] at z
    refine ⟨by rw [RpA.length y]; exact hl, fun p hp' => z R' _ _ ((J.same (same_new hp')).putO (J.ext.sub.free hp') (J.ext.hh.free hp') ⟨vs, upd_same, y⟩ (RO.notOwned J hp')) (F.set hp)⟩
  · rw [if_neg hl] at z; exact z.elim
def qAsg (p : GF) (f : SS → XR D) : SF := fun σ => thenX (f σ) fun d σ => optK (p d σ)
theorem dq_asg {tg : Expr} {p : GF} {ix : List Nat} {f : SS → XR D} (he : XE X E e f) (hg : DG X tg ix p) (hp : ∀ q ∈ ps, q ∉ ix := by decide) (hs : swapsWithSole [tg] e pos.line X.env = pure false := by rfl) (hw : swappedStores [tg] e X.env = pure none := by rfl)
    (h1 : (assignEach [tg] X.env).map (·.2) = [assign tg X.env] := by rfl) : DQ1 X E ps rk (.Assign [tg] e pos) (qAsg p f) := by
  obtain ⟨t, e1, e2⟩ := he
  obtain ⟨u, g1, g2⟩ := hg
  refine ⟨_, ps_asg e1 g1 hs hw h1, fun R0 H0 τ0 σ τ R H Dn I F q => e2 R0 H0 σ τ R H _ I (xthen q fun d v σ' R' H' s J y z => ?_)⟩
  cases w : p d σ' with
  | none => rw [w] at z; exact z.elim
  | some σ2 =>
    rw [w] at z
    exact g2 R0 H0 d v σ' σ2 τ R' H' _ J y w fun R2 H2 τ2 _ w2 J2 => z R2 H2 τ2 J2 (F.wp w2 hp)
def gStore (i : Nat) (k : Int) : GF := fun d σ => match σ[i]? with
  | some (some (.ow (.list c))) => (ixN c.length k).map fun n => σ.set i (some (.ow (.list (c.set n d))))
  | _ => none
theorem dg_store {k : Int} {j : Option Str} {kp np : Pos} {kk} (i : Nat) (hv : IsV X i x np)
    (hg : ∀ v, assign (.Subscript (.Name x np) (.Constant (.int k) kk kp) pos') X.env v = (do
      let ov ← holding [v] (eval (.Name x np) X.env)
      let iv ← holding [v, ov] (eval (.Constant (.int k) kk kp) X.env)
      standAt pos'
      holding [v, ov, iv] (setItem ov iv v)
      release [v, ov, iv] []) := by intro _; rfl) : DG X (.Subscript (.Name x np) (.Constant (.int k) kk kp) pos') [] (gStore i k) := by
  refine ⟨_, pg_sub hv pe_int set_list hg, fun R0 H0 d v σ σ' τ R H Q I r e q => ?_⟩
  unfold gStore at e
  split at e
  · rename_i c hc
    obtain ⟨a, h1, h2, h3, xs, h4, h5⟩ := I.ow i _ hc
    cases z : ixN c.length k with
    | none => rw [z] at e; cases e
    | some n =>
      rw [z] at e
      cases e
      exact ⟨_, h1, a, xs, k, n, rfl, rfl, h4, by rw [h5.length]; exact z, q R _ τ (Same.refl _) (Wp.refl _ _) (I.mut (d := .list (c.set n d)) hc h1 ⟨_, upd_same, h5.set r n⟩)⟩
  · cases e
variable {i' value : Expr} {np : Pos}
def qPut (i : Nat) (fk : SS → XR D) (fv : DS → Res D) : SF := fun σ => ownD i σ fun _ => thenR (fv (mask σ)) σ fun v => thenX (fk σ) fun k σ => ownD i σ fun kvs => putS i σ kvs k v
theorem putS_runQ {j : Nat} {dk dv : D} {k v : V} {a : Addr} {kvs : List (D × D)} (hc : σ[j]? = some (some (.ow (.dict kvs)))) (h1 : τ[j]? = some (some (.ref a))) (I : RO X.K R0 H0 R H σ τ) (F : Fr ps τ0 τ) (rk1 : Rp X.K R k dk) (rv : Rp X.K R v dv) (q : QPost X E ps rk τ0 R0 H0 Dn (putS j σ kvs dk dv)) :
    ∃ H4, DPut H a k v H4 ∧ Dn.nx τ H4 := by
  obtain ⟨a', h1', h2, h3, ks, h4, h5⟩ := I.ow j _ hc
  rw [h1] at h1'; cases h1'
  unfold putS at q
  split at q
  · rename_i ns hk
    split at q
    · rename_i hl
      obtain ⟨b, rfl, hb⟩ := key_run rk1 I.ext.sub hk
      exact ⟨_, DPut.t h4 hb (by rw [h5.length]; exact hl), q R _ τ (I.mut (d := .dict (putKD kvs ns dv)) hc h1 ⟨_, upd_same, h5.put rv⟩) F⟩
    · exact q.elim
  · exact q.elim
theorem dq_put {fk : SS → XR D} {fv : DS → Res D} (j : Nat) (hu : X.A.units + 65 < cLine) (hv : IsV X j x np) (hk : XE X E i' fk) (hval : DE X E value fv) (hs : swapsWith value (some (.Subscript (.Name x np) i' pos')) pos.line X.env = pure false := by rfl) :
    DQ1 X E ps rk (.Assign [.Subscript (.Name x np) i' pos'] value pos) (qPut j fk fv) := by
  obtain ⟨ta, a1, a2⟩ := hk
  obtain ⟨tb, b1, b2⟩ := hval
  refine ⟨_, ps_dput (by omega) hv a1 b1 hs, fun R0 H0 τ0 σ τ R H Dn I F q => ?_⟩
  unfold qPut ownD at q
  split at q
  · rename_i c0 hc0
    obtain ⟨a, h1, _⟩ := I.ow j _ hc0
    refine b2 (mask σ) τ R H _ I.mask I.ext.sub ?_
    cases w : fv (mask σ) with
    | ok dv =>
      rw [w] at q
      intro v R1 H1 e1 q1
      refine ⟨_, h1, a2 R0 H0 σ τ R1 H1 _ (I.step e1) (xthen q fun dk k σ' R' H' s J y z => ?_)⟩
      unfold ownD at z
      split at z
      · rename_i kvs hc
        obtain ⟨a', h1', _⟩ := J.ow j _ hc
        rw [h1] at h1'; cases h1'
        obtain ⟨H4, w1, w2⟩ := putS_runQ hc h1 J F y (q1.mono s) z
        exact ⟨a, H4, rfl, w1, w2⟩
      · exact z.elim
    | exc ex => rw [w] at q; exact fun cc dx H2 s y2 => q cc dx R H2 τ (I.same s) (y2.back I.ext.hh)
    | stuck => rw [w] at q; exact q
  · exact q.elim
variable {name : Str} {id : String} {apos : Pos} {m : MF} {es : List Expr} {ga : SS → XR (List D)}
def qMut (i : Nat) (m : MF) (g : SS → XR (List D)) : SF := fun σ => ownL i σ fun _ => thenX (g σ) fun ds σ => ownL i σ fun c => mutK i σ (m c ds) fun _ σ' => .ok .nx σ'
theorem dq_mut (i : Nat) (hv : IsV X i x np) (hm : MtD X id m) (hpe : PeM X (.Name x np) name id apos (e :: es) pos) (ha : XA X E (e :: es) ga)
    (hs : swapsWith (.Call (.Attribute (.Name x np) name apos) (e :: es) [] pos) none pos'.line X.env = pure false := by rfl) : DQ1 X E ps rk (.Expr (.Call (.Attribute (.Name x np) name apos) (e :: es) [] pos) pos') (qMut i m ga) := by
  obtain ⟨r, m1, m2⟩ := hm
  obtain ⟨t, a1, a2⟩ := ha
  refine ⟨_, ps_expr (hpe m1 hv a1) hs, fun R0 H0 τ0 σ τ R H Dn I F q => ?_⟩
  unfold qMut ownL at q
  split at q
  · rename_i c0 hc0
    obtain ⟨a, h1, h2, h3, xs, h4, h5⟩ := I.ow i _ hc0
    refine ⟨_, h1, tyL h4, a2 R0 H0 σ τ R H _ I (xthen q fun ds vs σ' R' H' s J y z => ?_)⟩
    unfold ownL at z
    split at z
    · rename_i c hc
      obtain ⟨b, q1, q2, q3, xs, q4, q5⟩ := J.ow i _ hc
      rw [h1] at q1; cases q1
      unfold mutK at z
      dsimp only at z
      split at z
      · rename_i d c' hmc
        exact m2 a xs c vs ds d c' R' H' _ q4 q2 q5 y J.ext.sub hmc fun v ys w1 w2 => z R' _ τ (J.mut (d := .list c') hc h1 ⟨ys, upd_same, w1⟩) F
      · exact z.elim
    · exact z.elim
  · exact q.elim
def qMut0 (i : Nat) (m : MF) : SF := sMut0 i m
theorem dq_mut0 (i : Nat) (hv : IsV X i x np) (hm : MtD X id m) (hpe : PeM0 X (.Name x np) name id apos pos)
    (hs : swapsWith (.Call (.Attribute (.Name x np) name apos) [] [] pos) none pos'.line X.env = pure false := by rfl) : DQ1 X E ps rk (.Expr (.Call (.Attribute (.Name x np) name apos) [] [] pos) pos') (sMut0 i m) := by
  obtain ⟨r, m1, m2⟩ := hm
  refine ⟨_, ps_expr (hpe m1 hv) hs, fun R0 H0 τ0 σ τ R H Dn I F q => ?_⟩
  unfold sMut0 ownL at q
  split at q
  · rename_i c hc
    obtain ⟨a, h1, h2, h3, xs, h4, h5⟩ := I.ow i _ hc
    unfold mutK at q
    dsimp only at q
    split at q
    · rename_i d c' hmc
      exact ⟨_, h1, tyL h4, m2 a xs c [] [] d c' R H _ h4 h2 h5 .nil I.ext.sub hmc fun v ys w1 w2 => q R _ τ (I.mut (d := .list c') hc h1 ⟨ys, upd_same, w1⟩) F⟩
    · exact q.elim
  · exact q.elim
variable {tg iter : Expr} {pt : GF} {ix : List Nat} {gb : SF} {body : List Stmt}
theorem forQ_run {H1 R1 : Hp} {J : It} {ds : List D} {tg' : TG} {tb : TS}
    (hg : ∀ (R0 H0 : Hp) (d : D) (v : V) (σ σ' : SS) (τ : L2.St) (R H : Hp) (Q : L2.St → Hp → Prop), RO X.K R0 H0 R H σ τ → Rp X.K R v d → pt d σ = some σ' → (∀ R' H' τ', Same R R' → Wp ix τ τ' → RO X.K R0 H0 R' H' σ' τ' → Q τ' H') → tg' v τ H Q)
    (hb : ∀ (R0 H0 : Hp) (τ0 : L2.St) (σ : SS) (τ : L2.St) (R H : Hp) (Dn : Ends), RO X.K R0 H0 R H σ τ → Fr ps τ0 τ → QPost X E ps rk τ0 R0 H0 Dn (gb σ) → tb Dn τ H)
    (hp : ∀ q ∈ ps, q ∉ ix) (I : RO X.K R0 H0 R1 H1 σ τ) (F : Fr ps τ0 τ) (w : Walk X.K J R1 ds) (q : QPost X E ps rk τ0 R0 H0 Dn (forS pt gb ds σ)) :
    ∃ W : Nat → Nat → L2.St → Hp → Prop, (∃ m, W 0 m τ H1) ∧ ∀ i m τ H, W i m τ H → (J.stop i H ∧ Dn.nx τ H) ∨ (J.go i H ∧ ∃ N : L2.St → Hp → Prop, (∀ τ' H', N τ' H' → ∃ m', m' < m ∧ W (i + 1) m' τ' H') ∧
      ∀ x H', J.yld i H x H' → tg' x τ H' fun τ2 H2 => tb { Dn with nx := N, ct := N, bk := Dn.nx } τ2 H2) := by
  have e1 := I.ext
  refine ⟨fun i m τ H => m = ds.length - i ∧ i ≤ ds.length ∧ ∃ σ R, Same R1 R ∧ RO X.K R0 H0 R H σ τ ∧ Fr ps τ0 τ ∧ QPost X E ps rk τ0 R0 H0 Dn (forS pt gb (ds.drop i) σ), ⟨ds.length, by simp, Nat.zero_le _, σ, R1, Same.refl _, I, F, by rw [List.drop_zero]; exact q⟩, ?_⟩
  rintro i m τ H ⟨rfl, hi, σ, R, sR, J1, F1, q1⟩
  obtain ⟨w1, w2⟩ := w R H sR J1.ext.sub
  by_cases hlt : i < ds.length
  · have hd : ds[i]? = some ds[i] := List.getElem?_eq_getElem hlt
    obtain ⟨go, yl⟩ := w1 i _ hd
    rw [List.drop_eq_getElem_cons hlt] at q1
    refine .inr ⟨go, fun τ' H' => ∃ σ' R', Same R1 R' ∧ RO X.K R0 H0 R' H' σ' τ' ∧ Fr ps τ0 τ' ∧ QPost X E ps rk τ0 R0 H0 Dn (forS pt gb (ds.drop (i + 1)) σ'), fun τ' H' ⟨σ', R', a, b, f, c⟩ => ⟨ds.length - (i + 1), by omega, rfl, hlt, σ', R', a, b, f, c⟩, fun x H' y => ?_⟩
    obtain ⟨R2, x2, r2⟩ := yl x H' y
    have J2 := J1.step x2
    have sR2 : Same R1 R2 := sR.trans x2.rr
    unfold forS at q1
    split at q1
    · exact q1.elim
    · rename_i σ1 hpt
      refine hg R0 H0 _ x σ σ1 τ R2 H' _ J2 r2 hpt fun R3 H3 τ3 s3 w3 J3 => ?_
      have sR3 : Same R1 R3 := sR2.trans s3
      refine hb R1 (un H0 R1) τ0 σ1 τ3 R3 H3 _ (J3.into e1.rr sR3) (F1.wp w3 hp) ?_
      cases z : gb σ1 with
      | ok o σ2 =>
        rw [z] at q1
        cases o with
        | nx => exact fun R4 H4 τ4 J4 F4 => ⟨σ2, R4, J4.ext.rr, J4.outof e1, F4, q1⟩
        | ct => exact fun R4 H4 τ4 J4 F4 => ⟨σ2, R4, J4.ext.rr, J4.outof e1, F4, q1⟩
        | bk => exact fun R4 H4 τ4 J4 F4 => q1 R4 H4 τ4 (J4.outof e1) F4
        | rt d => exact fun v R4 H4 τ4 x4 => q1 v R4 H4 τ4 (RK.outof e1 x4)
      | exc ex σ2 => rw [z] at q1; exact fun c dx R4 H4 τ4 J4 y4 => q1 c dx R4 H4 τ4 (J4.outof e1) (y4.back un_l)
      | stuck => rw [z] at q1; exact q1
  · have e : i = ds.length := by omega
    subst e
    rw [List.drop_length] at q1
    exact .inl ⟨w2, q1 R H τ J1 F1⟩
theorem dq_for {it : DS → Res (List D)} (hpo : PassesOwn (model X.prog X.w) X.A X.env X.xe) (hc : X.calm = true) (hi : DI X E tg iter it) (hg : DG X tg ix pt) (hb : DQs X E ps rk body gb) (hp : ∀ q ∈ ps, q ∉ ix := by decide) (hs : ∀ x, foldedSetIterable iter X.env x = pure x := by intro _; rfl) :
    DQ1 X E ps rk (.For tg iter body [] pos) (sFor it pt gb) := by
  obtain ⟨wi, i1, i2⟩ := hi
  obtain ⟨tg', g1, g2⟩ := hg
  obtain ⟨tb, b1, b2⟩ := hb
  refine ⟨_, ps_for hpo hc i1 g1 b1 hs, fun R0 H0 τ0 σ τ R H Dn I F q => i2 (mask σ) τ R H _ I.mask I.ext.sub ?_⟩
  unfold sFor at q
  cases z : it (mask σ) with
  | ok ds => rw [z] at q; exact fun J R' H' x w => forQ_run g2 b2 hp (I.step x) F w q
  | exc ex => rw [z] at q; exact fun c dx H' s y => q c dx R H' τ (I.same s) (y.back I.ext.hh)
  | stuck => rw [z] at q; exact q
theorem dq_forR {it : DS → Res (List D)} (hpo : PassesOwn (model X.prog X.w) X.A X.env X.xe) (hc : X.calm = true) (hi : DR X E tg iter it) (hg : DG X tg ix pt) (hb : DQs X E ps rk body gb) (hp : ∀ q ∈ ps, q ∉ ix := by decide) (hs : ∀ x, foldedSetIterable iter X.env x = pure x := by intro _; rfl) :
    DQ1 X E ps rk (.For tg iter body [] pos) (sForR it pt gb) := by
  obtain ⟨wi, i1, i2⟩ := hi
  obtain ⟨tg', g1, g2⟩ := hg
  obtain ⟨tb, b1, b2⟩ := hb
  refine ⟨_, ps_for hpo hc i1 g1 b1 hs, fun R0 H0 τ0 σ τ R H Dn I F q => i2 (view σ) τ (full σ τ R H) H _ I.viewed I.fullH ?_⟩
  unfold sForR at q
  cases z : it (view σ) with
  | ok ds => rw [z] at q; exact fun J R' H' x w => forQ_run g2 b2 hp (I.stepF x).1 F (w _) q
  | exc ex => rw [z] at q; exact fun c dx H' s y => q c dx R H' τ (I.same s) (y.back I.ext.hh)
  | stuck => rw [z] at q; exact q
def qForR (it : SS → XR (List D)) (p : GF) (body : SF) : SF := fun σ => thenX ((it σ).bind fun ds σ => .of σ (rng1 ds)) fun ds σ => forS p body ds σ
theorem dq_forRX {p0 rp : Pos} {r1 : Expr} {it : SS → XR (List D)} (hpo : PassesOwn (model X.prog X.w) X.A X.env X.xe) (hc : X.calm = true) (hgr : Gl X "range") (hm : X.mg "range" = none) (hi : XA X E [r1] it) (hg : DG X tg ix pt) (hb : DQs X E ps rk body gb) (hp : ∀ q ∈ ps, q ∉ ix := by decide)
    (hst : starEach [r1] X.env = [(false, eval r1 X.env)] := by rfl) (hs : ∀ x, foldedSetIterable (.Call (.Name "range" p0) [r1] [] rp) X.env x = pure x := by intro _; rfl) :
    DQ1 X E ps rk (.For tg (.Call (.Name "range" p0) [r1] [] rp) body [] pos) (qForR it pt gb) := by
  obtain ⟨t, i1, i2⟩ := hi
  obtain ⟨tg', g1, g2⟩ := hg
  obtain ⟨tb, b1, b2⟩ := hb
  refine ⟨_, ps_for hpo hc (pi_range1 hgr hm i1 hst) g1 b1 hs, fun R0 H0 τ0 σ τ R H Dn I F q => ?_⟩
  refine i2 R0 H0 σ τ R H _ I ?_
  unfold qForR at q
  cases z : it σ with
  | ok ds σ1 =>
    rw [z] at q
    intro vs R1 H1 s1 I1 r
    match ds, r, q with
    | [.int n], r, q =>
      obtain ⟨v, rfl, rv⟩ := one_inv r
      cases rv
      have q' : QPost X E ps rk τ0 R0 H0 Dn (thenX (.of σ1 (rng1 [.int n])) fun ds σ => forS pt gb ds σ) := q
      simp only [rng1] at q'
      split at q'
      · rename_i hl
        exact ⟨n, rfl, hl.1, hl.2, forQ_run g2 b2 hp I1 F (walk_range 0 n _ (by omega) R1) q'⟩
      · exact q'.elim
    | [], _, h1 => exact h1.elim
    | [.none], _, h1 => exact h1.elim
    | [.bool _], _, h1 => exact h1.elim
    | [.str _], _, h1 => exact h1.elim
    | [.list _], _, h1 => exact h1.elim
    | [.tuple _], _, h1 => exact h1.elim
    | [.dict _], _, h1 => exact h1.elim
    | d1 :: _ :: _, _, h1 => cases d1 <;> exact h1.elim
  | exc ex σ1 => rw [z] at q; exact fun c dx R' H' I' y => q c dx R' H' τ I' y
  | stuck => rw [z] at q; exact q
def qFor (f : SS → XR D) (p : GF) (body : SF) : SF := fun σ => thenX ((f σ).bind fun d σ => .of σ (seqOf d)) fun ds σ => forS p body ds σ
theorem dq_forX {f : SS → XR D} (hpo : PassesOwn (model X.prog X.w) X.A X.env X.xe) (hc : X.calm = true) (hi : XE X E iter f) (hg : DG X tg ix pt) (hb : DQs X E ps rk body gb) (hp : ∀ q ∈ ps, q ∉ ix := by decide) (hs : ∀ x, foldedSetIterable iter X.env x = pure x := by intro _; rfl) :
    DQ1 X E ps rk (.For tg iter body [] pos) (qFor f pt gb) := by
  obtain ⟨t, i1, i2⟩ := hi
  obtain ⟨tg', g1, g2⟩ := hg
  obtain ⟨tb, b1, b2⟩ := hb
  refine ⟨_, ps_for hpo hc (pi_seq i1) g1 b1 hs, fun R0 H0 τ0 σ τ R H Dn I F q => ?_⟩
  refine i2 R0 H0 σ τ R H _ I ?_
  unfold qFor at q
  cases z : f σ with
  | ok d σ1 =>
    rw [z] at q
    intro v R1 H1 s1 I1 r
    have q' : QPost X E ps rk τ0 R0 H0 Dn (thenX (.of σ1 (seqOf d)) fun ds σ => forS pt gb ds σ) := q
    cases r with
    | lst k1 k2 => exact ⟨_, rfl, .inl ⟨⟨_, (ls_same I1.ext.sub k1).sq⟩, forQ_run g2 b2 hp I1 F (walk_list k1 k2) q'⟩⟩
    | tup k1 k2 => exact ⟨_, rfl, .inr ⟨⟨_, SqT.of (I1.ext.sub _ _ k1)⟩, forQ_run g2 b2 hp I1 F (walk_tup k1 k2) q'⟩⟩
    | dT k1 k2 => cases k2 <;> exact q'.elim
    | ob m1 m2 => cases m1 with
      | wt k1 k2 k3 k4 k5 => exact ⟨_, rfl, .inr ⟨⟨_, .inr ⟨_, _, _, k1, k2, k3, k4, k5⟩⟩, forQ_run g2 b2 hp I1 F (walk_tupQ (.inr ⟨_, _, _, k1, k2, k3, k4, k5⟩) (RpF.wt_inv m2)) q'⟩⟩
      | _ => exact q'.elim
    | _ => exact q'.elim
  | exc ex σ1 => rw [z] at q; exact fun c dx R' H' I' y => q c dx R' H' τ I' y
  | stuck => rw [z] at q; exact q
end

section
variable {P : Program} {w : World} {K : PySem.W.Frag} {mg : Str → Option Value} {base : Heap}
theorem fn_mkQ {x qual : Str} {st : Stmt} {f : Addr} {fd : FuncData} {N ps : List Str} {k : Nat} {g : SF} (F : Fun K x qual st f fd) (S : FnScope N ps (defScope st))
    (hb : ∀ (cdv : Value) (A : Around) (outer : List Env) (s : Shared) (H : Hp) (Ex : XK), Room k (A.deeper (envOfC qual (defScope st) s.heap.objs.size f cdv)) →
      DQs (cxOf (L2.CX P w) P w K mg base N qual (defScope st) f cdv A outer s H Ex) (fun c d _ H => Ex c d H) [] .dat (defBody st) g) :
    FnOk P w K mg base (L2.CX P w) (k + 1) f fd ps (spD K mg ps.length (fnD N.length ps.length g)) := by
  refine F.okX S (fun vs H Q Ex h => h.1) (fun cdv A outer s H vs Q Ex hr h => ?_)
  obtain ⟨hl, R, ds, sR, hv, q⟩ := h
  obtain ⟨t, t1, t2⟩ := hb cdv A outer s H Ex hr
  refine ⟨t, t1, t2 R H (L2.start N vs) (startF N.length ds) (L2.start N vs) R H _ (start_ro sR hv) (fun _ z => by cases z) ?_⟩
  unfold fnD at q
  rw [if_pos (by rw [← hv.length]; exact hl)] at q
  cases z : g (startF N.length ds) with
  | ok o σ =>
    rw [z] at q
    cases o with
    | nx => exact fun R' H' τ' J _ => q _ R' H' J.ext Rp.non
    | rt d => exact fun v R' H' τ' x => q v R' H' x.1 x.2
    | bk => exact q.elim
    | ct => exact q.elim
  | exc e σ => rw [z] at q; exact fun c dx R' H' τ' J y => q c dx H' J.ext.hh y
  | stuck => rw [z] at q; exact q.elim
def endN : SR → Res D
  | .ok (.rt d) _ => .ok d
  | .exc e _ => .exc e
  | _ => .stuck
def fnN (N n : Nat) (g : SF) : List D → Res D := fun ds => if ds.length = n then endN (g (startF N ds)) else .stuck
theorem fnN_len {N n : Nat} {g : SF} : ∀ ds, ds.length ≠ n → fnN N n g ds = .stuck := fun ds h => if_neg h
def spN (K : PySem.W.Frag) (mg : Str → Option Value) (n : Nat) (F : List D → Res D) : Sp := fun vs H Q Ex =>
  vs.length = n ∧ ∃ R ds, Same R H ∧ RpA K R vs ds ∧ PostN K mg Ex R H Q (F ds)
abbrev FnN (P : Program) (w : World) (K : PySem.W.Frag) (mg : Str → Option Value) (base : Heap) (k : Nat) (f : Addr) (fd : FuncData) (ps : List Str) (F : List D → Res D) : Prop :=
  FnOk P w K mg base (L2.CX P w) k f fd ps (spN K mg ps.length F)
theorem fn_mkN {x qual : Str} {st : Stmt} {f : Addr} {fd : FuncData} {N ps : List Str} {k : Nat} {g : SF} (F : Fun K x qual st f fd) (S : FnScope N ps (defScope st))
    (hb : ∀ (cdv : Value) (A : Around) (outer : List Env) (s : Shared) (H : Hp) (Ex : XK), Room k (A.deeper (envOfC qual (defScope st) s.heap.objs.size f cdv)) →
      DQs (cxOf (L2.CX P w) P w K mg base N qual (defScope st) f cdv A outer s H Ex) (fun c d _ H => Ex c d H) [] .new (defBody st) g) :
    FnN P w K mg base (k + 1) f fd ps (fnN N.length ps.length g) := by
  refine F.okX S (fun vs H Q Ex h => h.1) (fun cdv A outer s H vs Q Ex hr h => ?_)
  obtain ⟨hl, R, ds, sR, hv, q⟩ := h
  obtain ⟨t, t1, t2⟩ := hb cdv A outer s H Ex hr
  refine ⟨t, t1, t2 R H (L2.start N vs) (startF N.length ds) (L2.start N vs) R H _ (start_ro sR hv) (fun _ z => by cases z) ?_⟩
  unfold fnN at q
  rw [if_pos (by rw [← hv.length]; exact hl)] at q
  cases z : g (startF N.length ds) with
  | ok o σ =>
    rw [z] at q
    cases o with
    | rt d =>
      rintro v R' H' τ' ⟨a, rfl, x1, x2, x3, x4⟩
      exact q a R' H' x1 x2 x3 x4
    | nx => exact q.elim
    | bk => exact q.elim
    | ct => exact q.elim
  | exc e σ => rw [z] at q; exact fun c dx R' H' τ' J y => q c dx H' J.ext.hh y
  | stuck => rw [z] at q; exact q.elim
def startP (N : Nat) (c : List D) (ds : List D) : SS := some (.ow (.list c)) :: (ds.map (fun d => some (.sh d)) ++ List.replicate (N - (ds.length + 1)) none)
def endP : SR → Res (D × List D)
  | .ok (.rt d) σ => match σ[(0 : Nat)]? with
    | some (some (.ow (.list c))) => .ok (d, c)
    | _ => .stuck
  | _ => .stuck
def fnP (N n : Nat) (g : SF) : PF := fun c ds => if ds.length + 1 = n then endP (g (startP N c ds)) else .stuck
theorem fnP_len {N n : Nat} {g : SF} : ∀ c ds, ds.length + 1 ≠ n → fnP N n g c ds = .stuck := fun c ds h => if_neg h
theorem start_roP {N : List Str} {a : Addr} {ws : List V} {xs : List V} {c ds : List D} {R H : Hp} (s : Same R H) (hH : H a = some (.lst xs)) (hR : R a = none) (hx : RpA K R xs c) (h : RpA K R ws ds) :
    RO K R (less H a) R H (startP N.length c ds) (L2.start N (.ref a :: ws)) := by
  have hl := h.length
  have sh : ∀ (i : Nat) (z : Slot), (startP N.length c ds)[i]? = some (some z) → (i = 0 ∧ z = .ow (.list c)) ∨ ∃ j d, i = j + 1 ∧ ds[j]? = some d ∧ z = .sh d := fun i z q => by
    cases i with
    | zero => left; unfold startP at q; rw [List.getElem?_cons_zero] at q; cases q; exact ⟨rfl, rfl⟩
    | succ j =>
      right
      unfold startP at q
      rw [List.getElem?_cons_succ] at q
      by_cases hi : j < ds.length
      · rw [List.getElem?_append_left (by rw [List.length_map]; exact hi), List.getElem?_map, List.getElem?_eq_getElem hi] at q
        cases q
        exact ⟨j, _, rfl, List.getElem?_eq_getElem hi, rfl⟩
      · rw [List.getElem?_append_right (by rw [List.length_map]; omega)] at q
        have := List.mem_of_getElem? q
        rw [List.mem_replicate] at this
        cases this.2
  have zero : (L2.start N (.ref a :: ws))[0]? = some (some (.ref a)) := by
    unfold L2.start
    rw [List.getElem?_append_left (by simp)]
    rfl
  have sl : Same (less H a) H := fun b o e => by
    by_cases nb : b = a
    · rw [nb, less_at] at e; cases e
    · rw [less_ne nb] at e; exact e
  refine ⟨⟨Same.refl _, s, sl, fun _ _ h => .inl h⟩, fun i d q => ?_, fun i d q => ?_, fun i j d e b q1 q2 _ _ => ?_, ?_⟩
  · rcases sh i _ q with ⟨_, z⟩ | ⟨j, d', rfl, h1, h2⟩
    · cases z
    · cases h2
      obtain ⟨v, z1, z2⟩ := h.get h1
      refine ⟨v, ?_, z2⟩
      unfold L2.start
      have hv : j < ws.length := (List.getElem?_eq_some_iff.mp z1).1
      rw [List.getElem?_append_left (by simp; omega), List.getElem?_map, List.getElem?_cons_succ, z1]
      rfl
  · rcases sh i _ q with ⟨rfl, z⟩ | ⟨j, d', _, _, z⟩
    · cases z
      exact ⟨a, zero, hR, less_at, xs, hH, hx⟩
    · cases z
  · rcases sh i _ q1 with ⟨rfl, z⟩ | ⟨_, _, _, _, z⟩
    · rcases sh j _ q2 with ⟨rfl, z⟩ | ⟨_, _, _, _, z⟩
      · rfl
      · cases z
    · cases z
  · unfold startP L2.start
    simp [hl]
theorem fn_mkP {x qual : Str} {st : Stmt} {f : Addr} {fd : FuncData} {N ps : List Str} {k : Nat} {g : SF} (F : Fun K x qual st f fd) (S : FnScope N ps (defScope st))
    (hb : ∀ (cdv : Value) (A : Around) (outer : List Env) (s : Shared) (H : Hp) (Ex : XK), Room k (A.deeper (envOfC qual (defScope st) s.heap.objs.size f cdv)) →
      DQs (cxOf (L2.CX P w) P w K mg base N qual (defScope st) f cdv A outer s H Ex) (fun c d _ H => Ex c d H) [0] (.pot 0) (defBody st) g) :
    FnP P w K mg base (k + 1) f fd ps (fnP N.length ps.length g) := by
  refine F.okX S (fun vs H Q Ex h => h.1) (fun cdv A outer s H vs Q Ex hr h => ?_)
  obtain ⟨hl, a, ws, R, c, xs, ds, rfl, hH, hR, hx, sR, hv, q⟩ := h
  obtain ⟨t, t1, t2⟩ := hb cdv A outer s H Ex hr
  refine ⟨t, t1, t2 R (less H a) (L2.start N (.ref a :: ws)) (startP N.length c ds) (L2.start N (.ref a :: ws)) R H _ (start_roP sR hH hR hx hv) (fun _ _ => rfl) ?_⟩
  unfold fnP at q
  rw [if_pos (by rw [← hv.length]; exact hl)] at q
  cases z : g (startP N.length c ds) with
  | ok o σ =>
    rw [z] at q
    cases o with
    | nx => exact q.elim
    | bk => exact q.elim
    | ct => exact q.elim
    | rt d =>
      rintro v R' H' τ' ⟨J, x2, x3⟩
      have q' : PostP K a R H Q (match σ[(0 : Nat)]? with
        | some (some (.ow (.list c))) => .ok (d, c)
        | _ => .stuck) := q
      split at q'
      · rename_i c' hc'
        obtain ⟨b, y1, y2, y3, ys, y4, y5⟩ := J.ow 0 _ hc'
        rw [x2] at y1
        have zero : (L2.start N (.ref a :: ws))[0]? = some (some (.ref a)) := by
          unfold L2.start
          rw [List.getElem?_append_left (by simp)]
          rfl
        rw [zero] at y1
        cases y1
        exact q' v R' H' ys J.ext y2 y4 y5 x3
      · exact q'.elim
  | exc e σ => rw [z] at q; exact q.elim
  | stuck => rw [z] at q; exact q.elim
end
section
variable {X : Cx} {E : WX} {k : Nat} {f : Addr} {fd : FuncData} {ps : List Str} {F : List D → Res D} {x : Str} {p pos : Pos} {e : Expr} {es : List Expr} {ga : DS → Res (List D)}
theorem dn_call (G : FnN X.prog X.w X.K X.mg X.base k f fd ps F) (hr : Room k X.A) (hg : Gl X x) (hm : X.mg x = some (.ref f)) (hk : PySem.W.keepIn X.K (.ref f) = true) (hb : Binds X.K fd ps []) (tk : Takes X E)
    (hF : ∀ ds, ds.length ≠ ps.length → F ds = .stuck) (ha : DA X E (e :: es) ga) (hdb : (x == ("__debug__" : Str)) = false := by decide) (he : starEach (e :: es) X.env = (false, eval e X.env) :: starEach es X.env := by rfl) (hpl : (backTo pos (starEach es X.env)).any (·.1) = false := by rfl) :
    DN X E (.Call (.Name x p) (e :: es) [] pos) (eCall F ga) := by
  obtain ⟨t, a1, a2⟩ := ha
  refine ⟨_, pe_callS (E := fun σ c d H => E c d σ H) G hr hg hm hk hb (fun σ => passAt tk σ) a1 hdb he hpl, fun σ τ R H Q hs s h => a2 σ τ R H _ hs s (post_bindN h fun d v R1 H1 e1 q1 h1 => ?_)⟩
  refine ⟨?_, R1, d, e1.sub, q1, h1⟩
  by_cases hl : d.length = ps.length
  · rw [q1.length]; exact hl
  · rw [hF d hl] at h1; exact h1.elim
theorem FnN.dat {P : Program} {w : World} {K : PySem.W.Frag} {mg : Str → Option Value} {base : Heap} {n : Nat} {f : Addr} {fd : FuncData} {ps : List Str} {F : List D → Res D} (G : FnN P w K mg base n f fd ps F) : FnD P w K mg base n f fd ps F :=
  FnOk.imp G fun vs H Q Ex ⟨h1, R, ds, h2, h3, h4⟩ => ⟨h1, R, ds, h2, h3, h4.toN⟩
end
end E3

namespace E3
open PySem PySem.Spec PyProof.Rows L2
def iKeysL (td : TE) : TI := fun σ H R => td σ H fun x H1 => ∃ d kvs, x = .ref d ∧ H1 d = some (.dT kvs) ∧ ∀ o, R (Itkt d o kvs) (upd H1 d (.frz o (.dT kvs)))
section
variable {X : Cx} {tg e : Expr} {td : TE}
theorem pi_keysL (he : PE X e td) : PI X tg e (iKeysL td) := by
  refine ⟨fun pins s σ H R I h => ?_⟩
  refine thn (he.run pins s σ H _ I h) fun u s1 ⟨x, H1, I1, rx, d, kvs, ex, hd, q⟩ => ?_
  subst ex
  obtain rfl : u = Value.ref d := rx
  obtain ⟨od, I2⟩ := I1.lock hd True.intro
  have hd2 : upd H1 d (.frz od (.dT kvs)) d = some (.frz od (.dT kvs)) := upd_same
  obtain ⟨hs, hgd, hx, es, ep, hdt, hsz, ent⟩ := I2.frzT hd2
  refine iter_keys hs hgd hx hdt (pi_one (tk := s1.toks) I2 _ (turn_keysT _ hdt) ⟨_, Heap.get?_push_size _ rfl, rfl, ?_⟩ (q od))
  rw [hsz] <;> rfl
end
def keysR : D → Res (List D)
  | .dict kvs => .ok (kvs.map (·.1))
  | _ => .stuck
theorem RpK.nth {K : PySem.W.Frag} {R : Hp} : ∀ {ks : List (List Key × V)} {kvs : List (D × D)} {i : Nat} {d : D}, RpK K R ks kvs → (kvs.map (·.1))[i]? = some d → ∃ ns : List Int, d = .tuple (ns.map .int) ∧ ∃ v, ks[i]? = some (ns.map Sum.inl, v)
  | _, _, _, _, .nil, h => by simp at h
  | _, _, 0, _, .cons (k := k) (v := v) _ _, h => by simp at h; exact ⟨k, h.symm, v, rfl⟩
  | _, _, i + 1, _, .cons _ r, h => by
    obtain ⟨ns, e, v, q⟩ := RpK.nth (i := i) r (by simpa using h)
    exact ⟨ns, e, v, by simpa using q⟩
theorem walk_keys {K : PySem.W.Frag} {R : Hp} {a : Addr} {o : Obj} {ks : List (List Key × V)} {kvs : List (D × D)} (h : R a = some (.frz o (.dT ks))) (q : RpK K R ks kvs) : Walk K (Itkt a o ks) R (kvs.map (·.1)) := fun R' H' s1 s2 => by
  have hH : H' a = some (.frz o (.dT ks)) := s2 _ _ (s1 _ _ h)
  have hl := q.length
  refine ⟨fun i d hd => ?_, hH, by rw [List.length_map, hl]; exact Nat.le_refl _⟩
  have hi : i < kvs.length := by
    have := (List.getElem?_eq_some_iff.mp hd).1
    rw [List.length_map] at this
    exact this
  refine ⟨⟨hH, by omega⟩, fun x H'' y => ?_⟩
  obtain ⟨rfl, k, v, b, z1, rfl, z2⟩ := y
  obtain ⟨ns, rfl, v', z3⟩ := q.nth hd
  rw [z1] at z3
  cases z3
  have sub : Same (addT R' H'' [b]) H'' := fun c u w => by
    by_cases hc : c ∈ [b]
    · rw [addT_in hc] at w; exact w
    · rw [addT_out hc] at w; exact s2 _ _ w
  refine ⟨addT R' H'' [b], ⟨fun c u w => ?_, sub, Same.refl _, fun c u w => ?_⟩, ?_⟩
  · by_cases hc : c ∈ [b]
    · rw [addT_in hc]; exact s2 _ _ w
    · rw [addT_out hc]; exact w
  · by_cases hc : c ∈ [b]
    · obtain rfl : c = b := by simpa using hc
      rw [addT_in hc, z2] at w
      cases w
      exact .inr (.inr ⟨_, rfl⟩)
    · rw [addT_out hc] at w; exact .inl w
  · refine .tup (xs := ns.map V.int) ?_ (RpA.ints ns)
    rw [addT_in (by simp), z2, List.map_map]
    rfl
theorem locked {R H : Hp} {a : Addr} {u : HO} {o : Obj} (s : Same R H) (n : R a = none) : Same (upd R a (.frz o u)) (upd H a (.frz o u)) := fun b x e => by
  by_cases hb : b = a
  · subst hb; rw [upd_same] at e ⊢; exact e
  · rw [upd_ne hb] at e ⊢; exact s _ _ e
section
variable {X : Cx} {E : WX} {tg e : Expr} {f : DS → Res D}
theorem di_keysN (he : DN X E e f) : DI X E tg e (fun σ => (f σ).bind keysR) := by
  obtain ⟨t, e1, e2⟩ := he
  refine ⟨_, pi_keysL e1, fun σ τ R H Rq hs s q => e2 σ τ R H _ hs s ?_⟩
  cases z : f σ with
  | ok d =>
    rw [z] at q
    intro a R1 H1 x n1 n2 w
    cases d with
    | dict kvs =>
      obtain ⟨ks, w1, w2⟩ := w
      refine ⟨a, ks, rfl, w1, fun o => ?_⟩
      have q' : Post X.K X.mg (xat E τ) (fun R' (J : It) ds => Walk X.K J R' ds) R H Rq (.ok (kvs.map (·.1))) := q
      have rr : Same R1 (upd R1 a (.frz o (.dT ks))) := same_new n1
      refine q' _ (upd R1 a (.frz o (.dT ks))) _ ⟨x.rr.trans rr, locked x.sub n1, fun b u eb => ?_, fun b u eb => ?_⟩ (walk_keys upd_same (w2.mono rr))
      · have nb : b ≠ a := fun z => by rw [z, n2] at eb; cases eb
        rw [upd_ne nb]; exact x.hh _ _ eb
      · by_cases hb : b = a
        · rw [hb]; exact .inr (.inl n2)
        · rw [upd_ne hb] at eb; exact x.new _ _ eb
    | _ => exact q.elim
  | exc ex => rw [z] at q; exact q
  | stuck => rw [z] at q; exact q
end
theorem RO.lockS {K : PySem.W.Frag} {R0 H0 R H : Hp} {σ : SS} {τ : L2.St} (I : RO K R0 H0 R H σ τ) {i : Nat} {kvs : List (D × D)} (h1 : σ[i]? = some (some (.ow (.dict kvs)))) : ∃ a ks, τ[i]? = some (some (.ref a)) ∧ H a = some (.dT ks) ∧
    ∀ o, ∃ R', RO K R0 H0 R' (upd H a (.frz o (.dT ks))) (σ.set i (some (.sh (.dict kvs)))) τ ∧ R' a = some (.frz o (.dT ks)) ∧ RpK K R' ks kvs := by
  obtain ⟨a, q1, q2, q3, ks, q4, q5⟩ := I.ow i _ h1
  refine ⟨a, ks, q1, q4, fun o => ?_⟩
  have rr : Same R (upd R a (.frz o (.dT ks))) := same_new q2
  have hl : i < σ.length := (List.getElem?_eq_some_iff.mp h1).1
  refine ⟨upd R a (.frz o (.dT ks)), ⟨⟨I.ext.rr.trans rr, locked I.ext.sub q2, fun b x e => ?_, fun b x e => ?_⟩, fun j e h => ?_, fun j e h => ?_, fun j k d' e b w1 w2 w3 w4 => ?_, by rw [List.length_set]; exact I.len⟩, upd_same, q5.mono rr⟩
  · have nb : b ≠ a := fun z => by rw [z, q3] at e; cases e
    rw [upd_ne nb]; exact I.ext.hh _ _ e
  · by_cases hb : b = a
    · rw [hb]; exact .inr (.inl q3)
    · rw [upd_ne hb] at e; exact I.ext.new _ _ e
  · by_cases hj : i = j
    · subst hj
      rw [List.getElem?_set_self hl] at h
      cases h
      exact ⟨_, q1, .dT (.inr ⟨o, upd_same⟩) (q5.mono rr)⟩
    · rw [List.getElem?_set_ne hj] at h
      obtain ⟨v, y1, y2⟩ := I.sh j e h
      exact ⟨v, y1, y2.mono rr⟩
  · by_cases hj : i = j
    · subst hj
      rw [List.getElem?_set_self hl] at h; cases h
    · rw [List.getElem?_set_ne hj] at h
      obtain ⟨b, r1, r2, r3, r4⟩ := I.ow j e h
      have nb : b ≠ a := fun z => by
        subst z
        exact hj (I.ne i j _ e b h1 h q1 r1)
      refine ⟨b, r1, by rw [upd_ne nb]; exact r2, r3, ?_⟩
      cases e with
      | list ds =>
        obtain ⟨vs, y1, y2⟩ := r4
        exact ⟨vs, by rw [upd_ne nb]; exact y1, y2.mono rr⟩
      | dict kk =>
        obtain ⟨vs, y1, y2⟩ := r4
        exact ⟨vs, by rw [upd_ne nb]; exact y1, y2.mono rr⟩
      | _ => exact r4.elim
  · have back : ∀ m (x : D), (σ.set i (some (Slot.sh (.dict kvs))))[m]? = some (some (Slot.ow x)) → σ[m]? = some (some (Slot.ow x)) := fun m x h => by
      by_cases hm : i = m
      · subst hm
        rw [List.getElem?_set_self hl] at h; cases h
      · rw [List.getElem?_set_ne hm] at h; exact h
    exact I.ne j k d' e b (back _ _ w1) (back _ _ w2) w3 w4
def sForK (i : Nat) (p : GF) (body : SF) : SF := fun σ => ownD i σ fun kvs => forS p body (kvs.map (·.1)) (σ.set i (some (.sh (.dict kvs))))
section
variable {X : Cx} {E : WX} {ps : List Nat} {rk : RK} {tg iter : Expr} {pt : GF} {ix : List Nat} {gb : SF} {body : List Stmt} {pos np : Pos} {x : Str}
theorem dq_forK (i : Nat) (hpo : PassesOwn (model X.prog X.w) X.A X.env X.xe) (hc : X.calm = true) (hv : IsV X i x np) (hg : DG X tg ix pt) (hb : DQs X E ps rk body gb) (hp : ∀ q ∈ ps, q ∉ ix := by decide) (hs : ∀ y, foldedSetIterable (.Name x np) X.env y = pure y := by intro _; rfl) :
    DQ1 X E ps rk (.For tg (.Name x np) body [] pos) (sForK i pt gb) := by
  obtain ⟨tg', g1, g2⟩ := hg
  obtain ⟨tb, b1, b2⟩ := hb
  refine ⟨_, ps_for hpo hc (pi_keysL hv) g1 b1 hs, fun R0 H0 τ0 σ τ R H Dn I F q => ?_⟩
  unfold sForK ownD at q
  split at q
  · rename_i kvs hkv
    obtain ⟨a, ks, h1, h2, h3⟩ := I.lockS hkv
    refine ⟨_, h1, a, ks, rfl, h2, fun o => ?_⟩
    obtain ⟨R', J, j1, j2⟩ := h3 o
    exact forQ_run g2 b2 hp J F (walk_keys j1 j2) q
  · exact q.elim
theorem ds_forK (i : Nat) (hpo : PassesOwn (model X.prog X.w) X.A X.env X.xe) (hc : X.calm = true) (hv : IsV X i x np) (hg : DG X tg ix pt) (hb : DSs X E body gb) (hs : ∀ y, foldedSetIterable (.Name x np) X.env y = pure y := by intro _; rfl) :
    DS1 X E (.For tg (.Name x np) body [] pos) (sForK i pt gb) := by
  obtain ⟨tg', g1, g2⟩ := hg
  obtain ⟨tb, b1, b2⟩ := hb
  refine ⟨_, ps_for hpo hc (pi_keysL hv) g1 b1 hs, fun R0 H0 σ τ R H Dn I q => ?_⟩
  unfold sForK ownD at q
  split at q
  · rename_i kvs hkv
    obtain ⟨a, ks, h1, h2, h3⟩ := I.lockS hkv
    refine ⟨_, h1, a, ks, rfl, h2, fun o => ?_⟩
    obtain ⟨R', J, j1, j2⟩ := h3 o
    exact for_run g2 b2 J (walk_keys j1 j2) q
  · exact q.elim
def qRetO (i : Nat) : SF := fun σ => match σ[i]? with
  | some (some (.ow d)) => .ok (.rt d) σ
  | _ => .stuck
theorem dq_retO (i : Nat) (hv : IsV X i x np) : DQ1 X E ps .new (.Return (some (.Name x np)) pos) (qRetO i) := by
  refine ⟨_, ps_ret hv, fun R0 H0 τ0 σ τ R H Dn I F q => ?_⟩
  unfold qRetO at q
  split at q
  · rename_i d hd
    obtain ⟨a, h1, h2, h3, h4⟩ := I.ow i _ hd
    exact ⟨_, h1, q (.ref a) R H τ ⟨a, rfl, I.ext, h2, h3, h4⟩⟩
  · exact q.elim
end
end E3

namespace E3
open PySem PySem.Spec PyProof.Rows L2

def spL (K : PySem.W.Frag) (n : Nat) (F : PF) : Sp := fun vs H Q _ =>
  vs.length = n ∧ ∃ a ws R c xs ds, vs = ws ++ [.ref a] ∧ H a = some (.lst xs) ∧ R a = none ∧ RpA K R xs c ∧ Same R H ∧ RpA K R ws ds ∧ PostP K a R H Q (F c ds)
abbrev FnL (P : Program) (w : World) (K : PySem.W.Frag) (mg : Str → Option Value) (base : Heap) (k : Nat) (f : Addr) (fd : FuncData) (ps : List Str) (F : PF) : Prop :=
  FnOk P w K mg base (L2.CX P w) k f fd ps (spL K ps.length F)
def startL (N : Nat) (c : List D) (ds : List D) : SS := ds.map (fun d => some (.sh d)) ++ (some (.ow (.list c)) :: List.replicate (N - (ds.length + 1)) none)
def endL (m : Nat) : SR → Res (D × List D)
  | .ok (.rt d) σ => match σ[m]? with
    | some (some (.ow (.list c))) => .ok (d, c)
    | _ => .stuck
  | _ => .stuck
def fnL (N m : Nat) (g : SF) : PF := fun c ds => if ds.length = m then endL m (g (startL N c ds)) else .stuck
theorem fnL_len {N m : Nat} {g : SF} : ∀ c ds, ds.length ≠ m → fnL N m g c ds = .stuck := fun c ds h => if_neg h
theorem fnL_lenS {N m : Nat} {g : SF} : ∀ c ds, ds.length + 1 ≠ m + 1 → fnL N m g c ds = .stuck := fun c ds h => if_neg fun z => h (by rw [z])
theorem dqs_stuck {X : Cx} {E : WX} {ps : List Nat} {rk : RK} {sts : List Stmt} : DQs X E ps rk sts sStuck := ⟨_, pss_never, fun _ _ _ _ _ _ _ _ _ _ q => q.elim⟩
theorem startL_at {N : List Str} {a : Addr} {ws : List V} : (L2.start N (ws ++ [.ref a]))[ws.length]? = some (some (.ref a)) := by
  unfold L2.start
  rw [List.getElem?_append_left (by simp), List.getElem?_map, List.getElem?_append_right (Nat.le_refl _), Nat.sub_self]
  rfl
theorem start_roL {K : PySem.W.Frag} {N : List Str} {a : Addr} {ws : List V} {xs : List V} {c ds : List D} {R H : Hp} (s : Same R H) (hH : H a = some (.lst xs)) (hR : R a = none) (hx : RpA K R xs c) (h : RpA K R ws ds) :
    RO K R (less H a) R H (startL N.length c ds) (L2.start N (ws ++ [.ref a])) := by
  have hl := h.length
  have sh : ∀ (i : Nat) (z : Slot), (startL N.length c ds)[i]? = some (some z) → (i = ds.length ∧ z = .ow (.list c)) ∨ ∃ d, i < ds.length ∧ ds[i]? = some d ∧ z = .sh d := fun i z q => by
    unfold startL at q
    by_cases hi : i < ds.length
    · right
      rw [List.getElem?_append_left (by rw [List.length_map]; exact hi), List.getElem?_map, List.getElem?_eq_getElem hi] at q
      cases q
      exact ⟨_, hi, List.getElem?_eq_getElem hi, rfl⟩
    · left
      rw [List.getElem?_append_right (by rw [List.length_map]; omega), List.length_map] at q
      by_cases he : i = ds.length
      · subst he
        rw [Nat.sub_self] at q
        cases q
        exact ⟨rfl, rfl⟩
      · obtain ⟨j, hj⟩ : ∃ j, i - ds.length = j + 1 := ⟨i - ds.length - 1, by omega⟩
        rw [hj, List.getElem?_cons_succ] at q
        have := List.mem_of_getElem? q
        rw [List.mem_replicate] at this
        cases this.2
  have zero : (L2.start N (ws ++ [.ref a]))[ds.length]? = some (some (.ref a)) := by rw [← hl]; exact startL_at
  have sl : Same (less H a) H := fun b o e => by
    by_cases nb : b = a
    · rw [nb, less_at] at e; cases e
    · rw [less_ne nb] at e; exact e
  refine ⟨⟨Same.refl _, s, sl, fun _ _ h => .inl h⟩, fun i d q => ?_, fun i d q => ?_, fun i j d e b q1 q2 _ _ => ?_, ?_⟩
  · rcases sh i _ q with ⟨_, z⟩ | ⟨d', hi, h1, h2⟩
    · cases z
    · cases h2
      obtain ⟨v, z1, z2⟩ := h.get h1
      refine ⟨v, ?_, z2⟩
      unfold L2.start
      have hv : i < ws.length := (List.getElem?_eq_some_iff.mp z1).1
      rw [List.getElem?_append_left (by simp; omega), List.getElem?_map, List.getElem?_append_left hv, z1]
      rfl
  · rcases sh i _ q with ⟨rfl, z⟩ | ⟨d', _, _, z⟩
    · cases z
      exact ⟨a, zero, hR, less_at, xs, hH, hx⟩
    · cases z
  · rcases sh i _ q1 with ⟨rfl, z⟩ | ⟨_, _, _, z⟩
    · rcases sh j _ q2 with ⟨rfl, z⟩ | ⟨_, _, _, z⟩
      · rfl
      · cases z
    · cases z
  · unfold startL L2.start
    simp [hl]
section
variable {P : Program} {w : World} {K : PySem.W.Frag} {mg : Str → Option Value} {base : Heap}
theorem fn_mkL {x qual : Str} {st : Stmt} {f : Addr} {fd : FuncData} {N ps : List Str} {k m : Nat} {g : SF} (F : Fun K x qual st f fd) (S : FnScope N ps (defScope st)) (hm : ps.length = m + 1)
    (hb : ∀ (cdv : Value) (A : Around) (outer : List Env) (s : Shared) (H : Hp) (Ex : XK), Room k (A.deeper (envOfC qual (defScope st) s.heap.objs.size f cdv)) →
      DQs (cxOf (L2.CX P w) P w K mg base N qual (defScope st) f cdv A outer s H Ex) (fun c d _ H => Ex c d H) [m] (.pot m) (defBody st) g) :
    FnL P w K mg base (k + 1) f fd ps (fnL N.length m g) := by
  refine F.okX S (fun vs H Q Ex h => h.1) (fun cdv A outer s H vs Q Ex hr h => ?_)
  obtain ⟨hl, a, ws, R, c, xs, ds, rfl, hH, hR, hx, sR, hv, q⟩ := h
  have hws : ws.length = m := by
    rw [List.length_append, List.length_singleton] at hl
    omega
  have hds : ds.length = m := by rw [← hv.length]; exact hws
  obtain ⟨t, t1, t2⟩ := hb cdv A outer s H Ex hr
  have zero : (L2.start N (ws ++ [.ref a]))[m]? = some (some (.ref a)) := by rw [← hws]; exact startL_at
  refine ⟨t, t1, t2 R (less H a) (L2.start N (ws ++ [(.ref a : V)])) (startL N.length c ds) (L2.start N (ws ++ [(.ref a : V)])) R H _ (start_roL (N := N) sR hH hR hx hv) (fun _ _ => rfl) ?_⟩
  unfold fnL at q
  rw [if_pos hds] at q
  cases z : g (startL N.length c ds) with
  | ok o σ =>
    rw [z] at q
    cases o with
    | nx => exact q.elim
    | bk => exact q.elim
    | ct => exact q.elim
    | rt d =>
      rintro v R' H' τ' ⟨J, x2, x3⟩
      have q' : PostP K a R H Q (match σ[m]? with
        | some (some (.ow (.list c))) => .ok (d, c)
        | _ => .stuck) := q
      split at q'
      · rename_i c' hc'
        obtain ⟨b, y1, y2, y3, ys, y4, y5⟩ := J.ow m _ hc'
        rw [x2] at y1
        rw [zero] at y1
        cases y1
        exact q' v R' H' ys J.ext y2 y4 y5 x3
      · exact q'.elim
  | exc e σ => rw [z] at q; exact q.elim
  | stuck => rw [z] at q; exact q.elim
end
def rL (K : PySem.W.Frag) (i : Nat) (τ : L2.St) : Hp → List V → List D → Prop := fun R vs ds => ∃ ws a, vs = ws ++ [.ref a] ∧ τ[i]? = some (some (.ref a)) ∧ RpA K R ws ds
structure XL (X : Cx) (E : WX) (i : Nat) (es : List Expr) (f : SS → XR (List D)) : Prop where
  run : ∃ t : TA, PA X es t ∧ ∀ (R0 H0 : Hp) (σ : SS) (τ : L2.St) (R H : Hp) (Q : List V → Hp → Prop), RO X.K R0 H0 R H σ τ → XPost X E (rL X.K i τ) R0 H0 R τ Q (f σ) → t τ H Q
def xLast (i : Nat) : SS → XR (List D) := fun σ => ownX i σ (.ok [] σ)
def xPotL (i : Nat) (F : PF) (g : SS → XR (List D)) : SS → XR D := fun σ => (g σ).bind fun ds σ => potK i σ fun c => F c ds
section
variable {X : Cx} {E : WX} {e : Expr} {es : List Expr} {f : SS → XR D} {ga : SS → XR (List D)} {pos p1 np : Pos} {k : Nat} {fa : Addr} {fd : FuncData} {ps : List Str} {F : PF} {x y : Str} {i : Nat}
theorem xl_last (hv : IsV X i y np) (hs : starEach [.Name y np] X.env = (false, eval (.Name y np) X.env) :: starEach [] X.env := by rfl) : XL X E i [.Name y np] (xLast i) := by
  refine ⟨_, pa_cons hv pa_nil hs, fun R0 H0 σ τ R H Q I h => ?_⟩
  unfold xLast ownX at h
  split at h
  · rename_i c0 hc0
    obtain ⟨a, ht, _, _, _⟩ := I.ow i _ hc0
    exact ⟨_, ht, xnow (rel := rL X.K i τ) (v := [.ref a]) I ⟨[], a, rfl, ht, .nil⟩ h⟩
  · exact h.elim
theorem xl_cons (ha : XE X E e f) (hr : XL X E i es ga) (hs : starEach (e :: es) X.env = (false, eval e X.env) :: starEach es X.env := by rfl) : XL X E i (e :: es) (xCons f ga) := by
  obtain ⟨t, h1, h2⟩ := ha
  obtain ⟨u, h3, h4⟩ := hr
  refine ⟨_, pa_cons h1 h3 hs, fun R0 H0 σ τ R H Q I h => h2 R0 H0 σ τ R H _ I (xbind h fun x v σ1 R1 H1 s1 I1 q1 k => ?_)⟩
  refine h4 R0 H0 σ1 τ R1 H1 _ I1 (xbind k fun xs vs σ2 R2 H2 s2 I2 q2 k2 => ?_)
  obtain ⟨ws, a, rfl, ht, q3⟩ := q2
  exact xnow (v := v :: (ws ++ [.ref a])) I2 ⟨v :: ws, a, rfl, ht, RpA.cons (q1.mono s2) q3⟩ k2
theorem xe_potL (i : Nat) (G : FnL X.prog X.w X.K X.mg X.base k fa fd ps F) (hr : Room k X.A) (hg : Gl X x) (hm : X.mg x = some (.ref fa)) (hk : PySem.W.keepIn X.K (.ref fa) = true) (hb : Binds X.K fd ps []) (tk : Takes X E)
    (hF : ∀ c ds, ds.length + 1 ≠ ps.length → F c ds = .stuck) (ha : XL X E i (e :: es) ga) (hdb : (x == ("__debug__" : Str)) = false := by decide)
    (hst : starEach (e :: es) X.env = (false, eval e X.env) :: starEach es X.env := by rfl) (hpl : (backTo pos (starEach es X.env)).any (·.1) = false := by rfl) :
    XE X E (.Call (.Name x p1) (e :: es) [] pos) (xPotL i F ga) := by
  obtain ⟨t, a1, a2⟩ := ha
  refine ⟨_, pe_callS (E := fun σ c d H => E c d σ H) G hr hg hm hk hb (fun σ => passAt tk σ) a1 hdb hst hpl, fun R0 H0 σ τ R H Q I h => ?_⟩
  unfold xPotL at h
  refine a2 R0 H0 σ τ R H _ I (xbind h fun ds vs σ1 R1 H1 s1 I1 q1 h1 => ?_)
  obtain ⟨ws, a, rfl, ht, q1⟩ := q1
  unfold potK at h1
  split at h1
  · rename_i c hc
    obtain ⟨a', ht', r2, r3, xs, r4, r5⟩ := I1.ow i _ hc
    rw [ht] at ht'; cases ht'
    cases z : F c ds with
    | ok dc =>
      obtain ⟨d, c'⟩ := dc
      dsimp only at h1
      rw [z] at h1
      have hl : ds.length + 1 = ps.length := by
        by_cases hl : ds.length + 1 = ps.length
        · exact hl
        · rw [hF c ds hl] at z; cases z
      refine ⟨by rw [List.length_append, List.length_singleton, q1.length]; exact hl, a, ws, R1, c, xs, ds, rfl, r4, r2, r5, I1.ext.sub, q1, ?_⟩
      rw [z]
      exact fun v R' H' ys x2 n1 n2 n3 n4 => h1 v R' H' x2.rr (I1.pot hc ht x2 n1 n2 n3) n4
    | exc _ => dsimp only at h1; rw [z] at h1; exact h1.elim
    | stuck => dsimp only at h1; rw [z] at h1; exact h1.elim
  · exact h1.elim
end
section
variable {X : Cx} {E : WX} {ps : List Nat} {rk : RK} {tg iter elt : Expr} {ifs : List Expr} {scope : Scope} {pos : Pos} {own : List (Str × Nat)} {ix : List Nat} {it : DS → Res (List D)} {pt : GF} {c : DS → Res Bool} {f : DS → Res D}
theorem dq_setLc (i : Nat) {y : Str} {py spos : Pos} (hc : X.calm = true) (hN : X.N.Nodup) (hy : X.N[i]? = some y) (hyl : X.env.scope.names.lookup y = some .local)
    (hsw : swapsWith (.ListComp elt [⟨tg, iter, ifs, 0⟩] scope pos) (some (.Name y py)) spos.line X.env = pure true) (hi : DI X E tg iter it) (ok : BlkOk X.N X.env.scope scope own) (hv : ∀ i ∈ ix, i ∈ own.map (·.2))
    (hg : ∀ (s : Shared) (H : Hp) (C : Addr) (cl : List (Str × Addr)) (fp : List Addr), DG (X.blk s H scope (compEnvC scope cl C X.env) fp) tg ix pt)
    (ht : ∀ (s : Shared) (H : Hp) (C : Addr) (cl : List (Str × Addr)) (fp : List Addr), DTs (X.blk s H scope (compEnvC scope cl C X.env) fp) E00 ifs c)
    (he : ∀ (s : Shared) (H : Hp) (C : Addr) (cl : List (Str × Addr)) (fp : List Addr), DE (X.blk s H scope (compEnvC scope cl C X.env) fp) E00 elt f) (hp : i ∉ ps := by decide)
    (hs : ∀ x, foldedSetIterable iter X.env x = pure x := by intro _; rfl) :
    DQ1 X E ps rk (.Assign [.Name y py] (.ListComp elt [⟨tg, iter, ifs, 0⟩] scope pos) spos) (sSet i (eLc it pt (own.map (·.2)) c f)) := by
  obtain ⟨wi, i1, i2⟩ := hi
  refine ⟨_, ps_setLc (g := TFG X.K ix pt) (tt := TFT X.K X.mg E00 c) (te := TF X.K X.mg E00 f) hc hN hy hyl hsw i1 ok (fun s H C cl fp => (hg s H C cl fp).pg) (fun s H C cl fp => (ht s H C cl fp).pts) (fun s H C cl fp => (he s H C cl fp).pe) hs, fun R0 H0 τ0 σ τ R H Dn I F q => ?_⟩
  refine lc_run (K := X.K) (mg := X.mg) (Ex := fun τ => xat E τ) i2 hv (fun R0 H0 d v σ σ' τ R H Q a b c q => ⟨R0, H0, d, σ, σ', R, a, b, c, q⟩) (fun σ τ R H Q a b c => ⟨σ, R, a, b, c⟩) (fun σ τ R H Q a b c => ⟨σ, R, a, b, c⟩) I.mask I.ext.sub (Post.toN ?_)
  unfold sSet at q
  cases z : eLc it pt (own.map (·.2)) c f (mask σ) with
  | ok d =>
    rw [z] at q
    exact fun v R' H' x r => q R' H' _ ((I.step x).put r) (F.set hp)
  | exc x => rw [z] at q; exact fun c dx H' s y => q c dx R H' τ (I.same s) (y.back I.ext.hh)
  | stuck => rw [z] at q; exact q
end
end E3

namespace E3
open PySem PySem.Spec PyProof.Rows L2
section
variable {X : Cx} {E : WX} {a b e : Expr} {pos : Pos} {f : SS → XR D} {p q : SS → XR Bool} {rest : List Expr}
def xOr (p q : SS → XR Bool) : SS → XR Bool := fun σ => (p σ).bind fun b σ => if b then .ok true σ else q σ
def xNot (p : SS → XR Bool) : SS → XR Bool := fun σ => (p σ).bind fun b σ => .ok (!b) σ
theorem xw_or1 (ha : XT X E a p) : XW X E (.BoolOp .Or [a] pos) p := by
  obtain ⟨t, h1, h2⟩ := ha
  exact ⟨t, pw_or1 h1, h2⟩
theorem xw_or (ha : XT X E a p) (hb : XW X E (.BoolOp .Or (b :: rest) pos) q) : XW X E (.BoolOp .Or (a :: b :: rest) pos) (xOr p q) := by
  obtain ⟨t, h1, h2⟩ := ha
  obtain ⟨u, h3, h4⟩ := hb
  refine ⟨_, pw_or h1 h3, fun R0 H0 σ τ R H Q I h => h2 R0 H0 σ τ R H _ I (xbind (rel := rB) h fun x v σ1 R1 H1 s1 I1 q1 k => ?_)⟩
  subst q1
  cases v with
  | false => exact h4 R0 H0 σ1 τ R1 H1 Q I1 k
  | true => exact xnow I1 (rel := rB) rfl k
theorem xt_not (ha : XT X E a p) : XT X E (.UnaryOp .Not a pos) (xNot p) := by
  obtain ⟨t, h1, h2⟩ := ha
  refine ⟨_, pt_not h1, fun R0 H0 σ τ R H Q I h => h2 R0 H0 σ τ R H _ I (xbind (rel := rB) h fun x v σ1 R1 H1 s1 I1 q1 k => ?_)⟩
  subst q1
  exact xnow I1 (rel := rB) rfl k
theorem xt_val (ha : XE X E a f) (he : ∀ whole, isTrue a X.env whole = (do let v ← whole; standAt a.pos; holding [v] (truthy v)) := by intro _; rfl) : XT X E a (xTB f) := by
  obtain ⟨ta, pa, qa⟩ := ha
  exact ⟨_, pt_val pa he, fun R0 H0 σ τ R H Q I h => qa R0 H0 σ τ R H _ I (xbind h fun x v σ1 R1 H1 s1 I1 q1 h1 => asB_run q1 I1.ext.sub (xof I1 h1))⟩
end
end E3

namespace E3
open PySem PySem.Spec PyProof.Rows L2

def whS (p : DS → Res Bool) (g : SF) : Nat → SF
  | 0 => fun _ => .stuck
  | n + 1 => fun σ => thenR (p (view σ)) σ fun b => if b then (match g σ with
    | .ok .nx σ' => whS p g n σ'
    | .ok .ct σ' => whS p g n σ'
    | .ok .bk σ' => .ok .nx σ'
    | r => r) else .ok .nx σ
theorem whS_mono {p : DS → Res Bool} {g : SF} : ∀ {n m : Nat} {σ : SS}, n ≤ m → whS p g n σ ≠ .stuck → whS p g m σ = whS p g n σ
  | 0, _, _, _, h => absurd rfl h
  | n + 1, 0, _, l, _ => by omega
  | n + 1, m + 1, σ, l, h => by
    unfold whS at h ⊢
    cases z : p (view σ) with
    | exc e => rfl
    | stuck => rfl
    | ok b =>
      rw [z] at h
      cases b with
      | false => rfl
      | true =>
        have h' : (match g σ with
          | .ok .nx σ' => whS p g n σ'
          | .ok .ct σ' => whS p g n σ'
          | .ok .bk σ' => .ok .nx σ'
          | r => r) ≠ SR.stuck := h
        show (match g σ with
          | .ok .nx σ' => whS p g m σ'
          | .ok .ct σ' => whS p g m σ'
          | .ok .bk σ' => .ok .nx σ'
          | r => r) = (match g σ with
          | .ok .nx σ' => whS p g n σ'
          | .ok .ct σ' => whS p g n σ'
          | .ok .bk σ' => .ok .nx σ'
          | r => r)
        cases y : g σ with
        | exc e σ' => rfl
        | stuck => rfl
        | ok o σ' =>
          rw [y] at h'
          cases o with
          | nx => exact whS_mono (Nat.le_of_succ_le_succ l) h'
          | ct => exact whS_mono (Nat.le_of_succ_le_succ l) h'
          | bk => rfl
          | rt d => rfl
open Classical in
noncomputable def sWhile (p : DS → Res Bool) (g : SF) : SF := fun σ => if h : ∃ n, whS p g n σ ≠ .stuck then whS p g (Classical.choose h) σ else .stuck
theorem sWhile_of {p : DS → Res Bool} {g : SF} {n : Nat} {σ : SS} {r : SR} (h : whS p g n σ = r) (hr : r ≠ .stuck) : sWhile p g σ = r := by
  have e : ∃ n, whS p g n σ ≠ .stuck := ⟨n, by rw [h]; exact hr⟩
  unfold sWhile
  rw [dif_pos e]
  have h2 := Classical.choose_spec e
  have h1 : whS p g n σ ≠ .stuck := by rw [h]; exact hr
  rcases Nat.le_total n (Classical.choose e) with l | l
  · rw [whS_mono l h1, h]
  · rw [← h, whS_mono l h2]
theorem sWhile_ex {p : DS → Res Bool} {g : SF} {σ : SS} (P : SR → Prop) (hp : ¬ P .stuck) (h : P (sWhile p g σ)) : ∃ n, P (whS p g n σ) := by
  unfold sWhile at h
  by_cases e : ∃ n, whS p g n σ ≠ .stuck
  · rw [dif_pos e] at h; exact ⟨_, h⟩
  · rw [dif_neg e] at h; exact absurd h hp
section
variable {X : Cx} {E : WX} {ps : List Nat} {rk : RK} {c : Expr} {body : List Stmt} {p : DS → Res Bool} {gb : SF} {pos : Pos} {R0 H0 R H : Hp} {τ0 τ : L2.St} {σ : SS} {Dn : Ends}
theorem post_testQ {r : Res Bool} {k : Bool → SR} {T : Bool → Hp → Prop} (I : RO X.K R0 H0 R H σ τ) (q : QPost X E ps rk τ0 R0 H0 Dn (thenR r σ k))
    (z : ∀ b R' H', RO X.K R0 H0 R' H' σ τ → QPost X E ps rk τ0 R0 H0 Dn (k b) → T b H') : Post X.K X.mg (xat E τ) rB (full σ τ R H) H T r := by
  cases r with
  | ok d =>
    refine fun v R' H' x y => ?_
    subst y
    exact z v _ H' (I.stepF x).1 q
  | exc x => exact fun c dx H' s y => q c dx R H' τ (I.same s) (y.back I.ext.hh)
  | stuck => exact q
theorem ds_while (hpo : PassesOwn (model X.prog X.w) X.A X.env X.xe) (hc : DT X E c p) (hb : DSs X E body gb) : DS1 X E (.While c body [] pos) (sWhile p gb) := by
  obtain ⟨tc, c1, c2⟩ := hc
  obtain ⟨tb, b1, b2⟩ := hb
  refine ⟨_, ps_while hpo c1 b1, fun R0 H0 σ τ R H Dn I q => ?_⟩
  obtain ⟨n, q⟩ := sWhile_ex (fun r => SPost X E R0 H0 Dn r) (fun z => z) q
  refine ⟨fun m τ H => ∃ σ R, RO X.K R0 H0 R H σ τ ∧ SPost X E R0 H0 Dn (whS p gb m σ), ⟨n, σ, R, I, q⟩, ?_⟩
  rintro m τ H ⟨σ, R, I, q⟩
  cases m with
  | zero => exact q.elim
  | succ m =>
    refine c2 (view σ) τ (full σ τ R H) H _ I.viewed I.fullH (post_test I q fun b R' H' J y => ?_)
    cases b with
    | false =>
      rw [if_neg Bool.false_ne_true]
      exact y R' H' τ J
    | true =>
      rw [if_pos rfl]
      refine ⟨fun τ H => ∃ σ R, RO X.K R0 H0 R H σ τ ∧ SPost X E R0 H0 Dn (whS p gb m σ), fun _ _ w => ⟨m, Nat.lt_succ_self m, w⟩, b2 R0 H0 σ τ R' H' _ J ?_⟩
      have y' : SPost X E R0 H0 Dn (match gb σ with
        | .ok .nx σ' => whS p gb m σ'
        | .ok .ct σ' => whS p gb m σ'
        | .ok .bk σ' => .ok .nx σ'
        | r => r) := y
      cases z : gb σ with
      | ok o σ' =>
        rw [z] at y'
        cases o with
        | nx => exact fun R4 H4 τ4 J4 => ⟨σ', R4, J4, y'⟩
        | ct => exact fun R4 H4 τ4 J4 => ⟨σ', R4, J4, y'⟩
        | bk => exact y'
        | rt d => exact y'
      | exc ex σ' => rw [z] at y'; exact y'
      | stuck => rw [z] at y'; exact y'
theorem dq_while (hpo : PassesOwn (model X.prog X.w) X.A X.env X.xe) (hc : DT X E c p) (hb : DQs X E ps rk body gb) : DQ1 X E ps rk (.While c body [] pos) (sWhile p gb) := by
  obtain ⟨tc, c1, c2⟩ := hc
  obtain ⟨tb, b1, b2⟩ := hb
  refine ⟨_, ps_while hpo c1 b1, fun R0 H0 τ0 σ τ R H Dn I F q => ?_⟩
  obtain ⟨n, q⟩ := sWhile_ex (fun r => QPost X E ps rk τ0 R0 H0 Dn r) (fun z => z) q
  refine ⟨fun m τ H => ∃ σ R, RO X.K R0 H0 R H σ τ ∧ Fr ps τ0 τ ∧ QPost X E ps rk τ0 R0 H0 Dn (whS p gb m σ), ⟨n, σ, R, I, F, q⟩, ?_⟩
  rintro m τ H ⟨σ, R, I, F, q⟩
  cases m with
  | zero => exact q.elim
  | succ m =>
    refine c2 (view σ) τ (full σ τ R H) H _ I.viewed I.fullH (post_testQ I q fun b R' H' J y => ?_)
    cases b with
    | false =>
      rw [if_neg Bool.false_ne_true]
      exact y R' H' τ J F
    | true =>
      rw [if_pos rfl]
      refine ⟨fun τ H => ∃ σ R, RO X.K R0 H0 R H σ τ ∧ Fr ps τ0 τ ∧ QPost X E ps rk τ0 R0 H0 Dn (whS p gb m σ), fun _ _ w => ⟨m, Nat.lt_succ_self m, w⟩, b2 R0 H0 τ0 σ τ R' H' _ J F ?_⟩
      have y' : QPost X E ps rk τ0 R0 H0 Dn (match gb σ with
        | .ok .nx σ' => whS p gb m σ'
        | .ok .ct σ' => whS p gb m σ'
        | .ok .bk σ' => .ok .nx σ'
        | r => r) := y
      cases z : gb σ with
      | ok o σ' =>
        rw [z] at y'
        cases o with
        | nx => exact fun R4 H4 τ4 J4 F4 => ⟨σ', R4, J4, F4, y'⟩
        | ct => exact fun R4 H4 τ4 J4 F4 => ⟨σ', R4, J4, F4, y'⟩
        | bk => exact y'
        | rt d => exact y'
      | exc ex σ' => rw [z] at y'; exact y'
      | stuck => rw [z] at y'; exact y'
end

section
variable {X : Cx} {E : WX} {ps : List Nat} {rk : RK} {e : Expr} {f : DS → Res D} {pos p2 : Pos}
theorem dq_expr (he : DE X E e f) (hs : swapsWith e none pos.line X.env = pure false := by rfl) : DQ1 X E ps rk (.Expr e pos) (sExpr f) := by
  obtain ⟨t, h1, h2⟩ := he
  refine ⟨_, ps_expr h1 hs, fun R0 H0 τ0 σ τ R H Dn I F q => h2 (mask σ) τ R H _ I.mask I.ext.sub ?_⟩
  unfold sExpr at q
  cases z : f (mask σ) with
  | ok d => rw [z] at q; exact fun v R' H' x y => q R' H' τ (I.step x) F
  | exc x => rw [z] at q; exact fun c dx H' s y => q c dx R H' τ (I.same s) (y.back I.ext.hh)
  | stuck => rw [z] at q; exact q
def slL : D → Option Int → Option Int → Res D
  | .list ds, lo, hi => .ok (.list (E3.cutD ds lo hi))
  | _, _, _ => .stuck
def eSlL (f : DS → Res D) (lo hi : DS → Res (Option Int)) : DS → Res D := fun σ => (f σ).bind fun x => (lo σ).bind fun l => (hi σ).bind fun u => slL x l u
theorem dn_sliceL {lo hi : Option Expr} {fl fh : DS → Res (Option Int)} (he : DE X E e f) (hl : DO X E lo fl) (hh : DO X E hi fh) : DN X E (.Subscript e (.Slice lo hi none p2) pos) (eSlL f fl fh) := by
  obtain ⟨te, e1, e2⟩ := he
  obtain ⟨tl, l1, l2⟩ := hl
  obtain ⟨th, h1, h2⟩ := hh
  refine ⟨_, pe_slice (sl_list.or sl_tupA) e1 l1 h1, fun σ τ R H Q hs s h => ?_⟩
  unfold eSlL at h
  refine e2 σ τ R H _ hs s (post_bindN h fun x v R1 H1 x1 q1 k1 => ?_)
  refine l2 σ τ R1 H1 _ (hs.mono x1.rr) x1.sub (post_bindN k1 fun l l' R2 H2 x2 q2 k2 => ?_)
  subst q2
  refine h2 σ τ R2 H2 _ ((hs.mono x1.rr).mono x2.rr) x2.sub (post_bindN k2 fun u u' R3 H3 x3 q3 k3 => ?_)
  subst q3
  have q4 := (q1.mono x2.rr).mono x3.rr
  cases q4 with
  | lst z1 z2 => exact .inl ⟨_, _, rfl, (ls_same x3.sub z1).sq, fun p hp => new_own (z2.cut _ _) x3.sub hp k3⟩
  | _ => exact k3.elim
end
def qPopD (i : Nat) (fk : SS → XR (List D)) : SF := fun σ => ownD i σ fun _ => thenX (fk σ) fun ds σ => match ds with
  | [k] => ownD i σ fun kvs => popK i σ kvs k fun _ σ' => .ok .nx σ'
  | _ => .stuck
section
variable {X : Cx} {E : WX} {ps : List Nat} {rk : RK} {e : Expr} {x : Str} {np apos pos pos' : Pos} {ga : SS → XR (List D)}
theorem dq_popD (i : Nat) (hu : X.A.units + 65 < cLine) (hv : IsV X i x np) (ha : XA X E [e] ga)
    (hpe : ∀ {r : V → List V → Hp → VK → Prop} {to : TE} {t : TA}, MtR X "dict.pop" r → PE X (.Name x np) to → PA X [e] t → PE X (.Call (.Attribute (.Name x np) "pop" apos) [e] [] pos) (tBM X.K "dict" r to t))
    (hs : swapsWith (.Call (.Attribute (.Name x np) "pop" apos) [e] [] pos) none pos'.line X.env = pure false := by rfl) :
    DQ1 X E ps rk (.Expr (.Call (.Attribute (.Name x np) "pop" apos) [e] [] pos) pos') (qPopD i ga) := by
  obtain ⟨t, a1, a2⟩ := ha
  refine ⟨_, ps_expr (hpe (mt_pop1 (by omega)) hv a1) hs, fun R0 H0 τ0 σ τ R H Dn I F q => ?_⟩
  unfold qPopD ownD at q
  split at q
  · rename_i c0 hc0
    obtain ⟨a, h1, h2, h3, ks0, h4, h5⟩ := I.ow i _ hc0
    refine ⟨_, h1, tyD h4, a2 R0 H0 σ τ R H _ I (xthen q fun ds vs σ' R' H' s J y z => ?_)⟩
    match ds, y, z with
    | [dk], y, z =>
      obtain ⟨k, rfl, rk1⟩ := one_inv y
      have z' : QPost X E ps rk τ0 R0 H0 Dn (ownD i σ' fun kvs => popK i σ' kvs dk fun _ σ' => .ok .nx σ') := z
      unfold ownD at z'
      split at z'
      · rename_i kvs hc
        obtain ⟨a', h1', h2, h3, ks, h4, h5⟩ := J.ow i _ hc
        rw [h1] at h1'; cases h1'
        simp only [popK] at z'
        split at z'
        · rename_i ns hk
          split at z'
          · rename_i d hval
            obtain ⟨b, rfl, hb⟩ := key_run rk1 J.ext.sub hk
            obtain ⟨v, hv1, hv2⟩ := (h5.val ns).1 d hval
            exact ⟨a, ks, ns.map Sum.inl, b, v, rfl, rfl, h4, hb, hv1, z' R' _ τ (J.mut (d := .dict (dropD kvs ns)) hc h1 ⟨_, upd_same, h5.drop ns⟩) F⟩
          · exact z'.elim
        · exact z'.elim
      · exact z'.elim
    | [], _, z => exact z.elim
    | _ :: _ :: _, _, z => exact z.elim
  · exact q.elim
end

abbrev KVs := List (D × D)
abbrev PFd := KVs → List D → Res (D × KVs)
def PostPd (K : PySem.W.Frag) (a : Addr) (R H : Hp) (Q : VK) : Res (D × KVs) → Prop
  | .ok (d, c) => ∀ v R' H' xs, Ext R (less H a) R' H' → R' a = none → H' a = some (.dT xs) → RpK K R' xs c → Rp K R' v d → Q v H'
  | _ => False
def spPd (K : PySem.W.Frag) (n : Nat) (F : PFd) : Sp := fun vs H Q _ =>
  vs.length = n ∧ ∃ a ws R c xs ds, vs = .ref a :: ws ∧ H a = some (.dT xs) ∧ R a = none ∧ RpK K R xs c ∧ Same R H ∧ RpA K R ws ds ∧ PostPd K a R H Q (F c ds)
abbrev FnPd (P : Program) (w : World) (K : PySem.W.Frag) (mg : Str → Option Value) (base : Heap) (k : Nat) (f : Addr) (fd : FuncData) (ps : List Str) (F : PFd) : Prop :=
  FnOk P w K mg base (L2.CX P w) k f fd ps (spPd K ps.length F)
theorem RO.potd {K : PySem.W.Frag} {R0 H0 R H R' H' : Hp} {σ : SS} {τ : L2.St} {i : Nat} {a : Addr} {c c' : KVs} {xs : List (List Key × V)} (I : RO K R0 H0 R H σ τ) (hc : σ[i]? = some (some (.ow (.dict c)))) (ht : τ[i]? = some (some (.ref a)))
    (e : Ext R (less H a) R' H') (hR : R' a = none) (hH : H' a = some (.dT xs)) (hx : RpK K R' xs c') : RO K R0 H0 R' H' (σ.set i (some (.ow (.dict c')))) τ := by
  obtain ⟨a', q1, q2, q3, q4⟩ := I.ow i _ hc
  rw [ht] at q1; cases q1
  have hl : i < σ.length := (List.getElem?_eq_some_iff.mp hc).1
  refine ⟨⟨I.ext.rr.trans e.rr, e.sub, fun b o h => ?_, fun b o h => ?_⟩, fun j d h => ?_, fun j d h => ?_, fun j k d' d b z1 z2 z3 z4 => ?_, by rw [List.length_set]; exact I.len⟩
  · have nb : b ≠ a := fun z => by rw [z, q3] at h; cases h
    exact e.hh _ _ (by rw [less_ne nb]; exact I.ext.hh _ _ h)
  · rcases e.new b o h with z | z | z
    · exact I.ext.new b o z
    · by_cases nb : b = a
      · rw [nb, hR] at h; cases h
      · rw [less_ne nb] at z; exact .inr (.inl (I.ext.hh.free z))
    · exact .inr (.inr z)
  · by_cases hj : i = j
    · subst hj; rw [List.getElem?_set_self hl] at h; cases h
    · rw [List.getElem?_set_ne hj] at h
      obtain ⟨v, y1, y2⟩ := I.sh j d h
      exact ⟨v, y1, y2.mono e.rr⟩
  · by_cases hj : i = j
    · subst hj; rw [List.getElem?_set_self hl] at h; cases h
      exact ⟨a, ht, hR, q3, xs, hH, hx⟩
    · rw [List.getElem?_set_ne hj] at h
      obtain ⟨b, r1, r2, r3, r4⟩ := I.ow j d h
      have nb : b ≠ a := fun z => by subst z; exact hj (I.ne i j _ d b hc h ht r1)
      have keep : ∀ o, H b = some o → H' b = some o := fun o y => e.hh _ _ (by rw [less_ne nb]; exact y)
      obtain ⟨o', z1, z2, z3⟩ := r4.some
      refine ⟨b, r1, ?_, r3, ?_⟩
      · cases q : R' b with
        | none => rfl
        | some o =>
          rcases e.new b o q with z | z | ⟨ys, z⟩
          · rw [r2] at z; cases z
          · rw [less_ne nb, z1] at z; cases z
          · have w1 := keep _ z1
            rw [e.sub _ _ q] at w1; cases w1
            exact absurd z (z2 ys)
      · cases d with
        | list ds =>
          obtain ⟨vs, y1, y2⟩ := r4
          exact ⟨vs, keep _ y1, y2.mono e.rr⟩
        | dict kvs =>
          obtain ⟨vs, y1, y2⟩ := r4
          exact ⟨vs, keep _ y1, y2.mono e.rr⟩
        | _ => exact r4.elim
  · have back : ∀ m (x : D), (σ.set i (some (Slot.ow (.dict c'))))[m]? = some (some (Slot.ow x)) → ∃ y, σ[m]? = some (some (Slot.ow y)) := fun m x h => by
      by_cases hm : i = m
      · subst hm; exact ⟨_, hc⟩
      · rw [List.getElem?_set_ne hm] at h; exact ⟨x, h⟩
    obtain ⟨y1, w1⟩ := back _ _ z1
    obtain ⟨y2, w2⟩ := back _ _ z2
    exact I.ne j k y1 y2 b w1 w2 z3 z4
def potKd (i : Nat) (σ : SS) (F : KVs → Res (D × KVs)) : XR D := match σ[i]? with
  | some (some (.ow (.dict c))) => match F c with
    | .ok (d, c') => .ok d (σ.set i (some (.ow (.dict c'))))
    | _ => .stuck
  | _ => .stuck
def ownXd {α : Type} (i : Nat) (σ : SS) (k : XR α) : XR α := match σ[i]? with
  | some (some (.ow (.dict _))) => k
  | _ => .stuck
def xPotd (i : Nat) (F : PFd) (g : SS → XR (List D)) : SS → XR D := fun σ => ownXd i σ ((g σ).bind fun ds σ => potKd i σ fun c => F c ds)
def dropKV : Res (D × KVs) → Res D
  | .ok (d, _) => .ok d
  | _ => .stuck
def ePotE (F : PFd) (f : DS → Res D) (g : DS → Res (List D)) : DS → Res D := fun σ => (f σ).bind fun d => match d with
  | .dict c => (g σ).bind fun ds => dropKV (F c ds)
  | _ => .stuck
def startPd (N : Nat) (c : KVs) (ds : List D) : SS := some (.ow (.dict c)) :: (ds.map (fun d => some (.sh d)) ++ List.replicate (N - (ds.length + 1)) none)
def endPd : SR → Res (D × KVs)
  | .ok (.rt d) σ => match σ[(0 : Nat)]? with
    | some (some (.ow (.dict c))) => .ok (d, c)
    | _ => .stuck
  | _ => .stuck
def fnPd (N n : Nat) (g : SF) : PFd := fun c ds => if ds.length + 1 = n then endPd (g (startPd N c ds)) else .stuck
theorem fnPd_len {N n : Nat} {g : SF} : ∀ c ds, ds.length + 1 ≠ n → fnPd N n g c ds = .stuck := fun c ds h => if_neg h
theorem start_roPd {K : PySem.W.Frag} {N : List Str} {a : Addr} {ws : List V} {xs : List (List Key × V)} {c : KVs} {ds : List D} {R H : Hp} (s : Same R H) (hH : H a = some (.dT xs)) (hR : R a = none) (hx : RpK K R xs c) (h : RpA K R ws ds) :
    RO K R (less H a) R H (startPd N.length c ds) (L2.start N (.ref a :: ws)) := by
  have hl := h.length
  have sh : ∀ (i : Nat) (z : Slot), (startPd N.length c ds)[i]? = some (some z) → (i = 0 ∧ z = .ow (.dict c)) ∨ ∃ j d, i = j + 1 ∧ ds[j]? = some d ∧ z = .sh d := fun i z q => by
    cases i with
    | zero => left; unfold startPd at q; rw [List.getElem?_cons_zero] at q; cases q; exact ⟨rfl, rfl⟩
    | succ j =>
      right
      unfold startPd at q
      rw [List.getElem?_cons_succ] at q
      by_cases hi : j < ds.length
      · rw [List.getElem?_append_left (by rw [List.length_map]; exact hi), List.getElem?_map, List.getElem?_eq_getElem hi] at q
        cases q
        exact ⟨j, _, rfl, List.getElem?_eq_getElem hi, rfl⟩
      · rw [List.getElem?_append_right (by rw [List.length_map]; omega)] at q
        have := List.mem_of_getElem? q
        rw [List.mem_replicate] at this
        cases this.2
  have zero : (L2.start N (.ref a :: ws))[0]? = some (some (.ref a)) := by
    unfold L2.start
    rw [List.getElem?_append_left (by simp)]
    rfl
  have sl : Same (less H a) H := fun b o e => by
    by_cases nb : b = a
    · rw [nb, less_at] at e; cases e
    · rw [less_ne nb] at e; exact e
  refine ⟨⟨Same.refl _, s, sl, fun _ _ h => .inl h⟩, fun i d q => ?_, fun i d q => ?_, fun i j d e b q1 q2 _ _ => ?_, ?_⟩
  · rcases sh i _ q with ⟨_, z⟩ | ⟨j, d', rfl, h1, h2⟩
    · cases z
    · cases h2
      obtain ⟨v, z1, z2⟩ := h.get h1
      refine ⟨v, ?_, z2⟩
      unfold L2.start
      have hv : j < ws.length := (List.getElem?_eq_some_iff.mp z1).1
      rw [List.getElem?_append_left (by simp; omega), List.getElem?_map, List.getElem?_cons_succ, z1]
      rfl
  · rcases sh i _ q with ⟨rfl, z⟩ | ⟨j, d', _, _, z⟩
    · cases z
      exact ⟨a, zero, hR, less_at, xs, hH, hx⟩
    · cases z
  · rcases sh i _ q1 with ⟨rfl, z⟩ | ⟨_, _, _, _, z⟩
    · rcases sh j _ q2 with ⟨rfl, z⟩ | ⟨_, _, _, _, z⟩
      · rfl
      · cases z
    · cases z
  · unfold startPd L2.start
    simp [hl]
section
variable {P : Program} {w : World} {K : PySem.W.Frag} {mg : Str → Option Value} {base : Heap}
theorem fn_mkPd {x qual : Str} {st : Stmt} {f : Addr} {fd : FuncData} {N ps : List Str} {k : Nat} {g : SF} (F : Fun K x qual st f fd) (S : FnScope N ps (defScope st))
    (hb : ∀ (cdv : Value) (A : Around) (outer : List Env) (s : Shared) (H : Hp) (Ex : XK), Room k (A.deeper (envOfC qual (defScope st) s.heap.objs.size f cdv)) →
      DQs (cxOf (L2.CX P w) P w K mg base N qual (defScope st) f cdv A outer s H Ex) (fun c d _ H => Ex c d H) [0] (.pot 0) (defBody st) g) :
    FnPd P w K mg base (k + 1) f fd ps (fnPd N.length ps.length g) := by
  refine F.okX S (fun vs H Q Ex h => h.1) (fun cdv A outer s H vs Q Ex hr h => ?_)
  obtain ⟨hl, a, ws, R, c, xs, ds, rfl, hH, hR, hx, sR, hv, q⟩ := h
  obtain ⟨t, t1, t2⟩ := hb cdv A outer s H Ex hr
  refine ⟨t, t1, t2 R (less H a) (L2.start N (.ref a :: ws)) (startPd N.length c ds) (L2.start N (.ref a :: ws)) R H _ (start_roPd sR hH hR hx hv) (fun _ _ => rfl) ?_⟩
  unfold fnPd at q
  rw [if_pos (by rw [← hv.length]; exact hl)] at q
  cases z : g (startPd N.length c ds) with
  | ok o σ =>
    rw [z] at q
    cases o with
    | nx => exact q.elim
    | bk => exact q.elim
    | ct => exact q.elim
    | rt d =>
      rintro v R' H' τ' ⟨J, x2, x3⟩
      have q' : PostPd K a R H Q (match σ[(0 : Nat)]? with
        | some (some (.ow (.dict c))) => .ok (d, c)
        | _ => .stuck) := q
      split at q'
      · rename_i c' hc'
        obtain ⟨b, y1, y2, y3, ys, y4, y5⟩ := J.ow 0 _ hc'
        rw [x2] at y1
        have zero : (L2.start N (.ref a :: ws))[0]? = some (some (.ref a)) := by
          unfold L2.start
          rw [List.getElem?_append_left (by simp)]
          rfl
        rw [zero] at y1
        cases y1
        exact q' v R' H' ys J.ext y2 y4 y5 x3
      · exact q'.elim
  | exc e σ => rw [z] at q; exact q.elim
  | stuck => rw [z] at q; exact q.elim
end
section
variable {X : Cx} {E : WX} {e : Expr} {es : List Expr} {ga : SS → XR (List D)} {pos p1 np : Pos} {k : Nat} {fa : Addr} {fd : FuncData} {ps : List Str} {F : PFd} {x y : Str}
theorem xe_potd (i : Nat) (hv : IsV X i y np) (G : FnPd X.prog X.w X.K X.mg X.base k fa fd ps F) (hr : Room k X.A) (hg : Gl X x) (hm : X.mg x = some (.ref fa)) (hk : PySem.W.keepIn X.K (.ref fa) = true) (hb : Binds X.K fd ps []) (tk : Takes X E)
    (hF : ∀ c ds, ds.length + 1 ≠ ps.length → F c ds = .stuck) (ha : XA X E es ga) (hdb : (x == ("__debug__" : Str)) = false := by decide)
    (hst : starEach (.Name y np :: es) X.env = (false, eval (.Name y np) X.env) :: starEach es X.env := by rfl) (hpl : (backTo pos (starEach es X.env)).any (·.1) = false := by rfl) :
    XE X E (.Call (.Name x p1) (.Name y np :: es) [] pos) (xPotd i F ga) := by
  obtain ⟨t, a1, a2⟩ := ha
  refine ⟨_, pe_callS (E := fun σ c d H => E c d σ H) G hr hg hm hk hb (fun σ => passAt tk σ) (pa_cons hv a1 hst) hdb hst hpl, fun R0 H0 σ τ R H Q I h => ?_⟩
  unfold xPotd ownXd at h
  split at h
  · rename_i c0 hc0
    obtain ⟨a, ht, _, _, _⟩ := I.ow i _ hc0
    refine ⟨_, ht, a2 R0 H0 σ τ R H _ I (xbind h fun ds vs σ1 R1 H1 s1 I1 q1 h1 => ?_)⟩
    unfold potKd at h1
    split at h1
    · rename_i c hc
      obtain ⟨a', ht', r2, r3, xs, r4, r5⟩ := I1.ow i _ hc
      rw [ht] at ht'; cases ht'
      cases z : F c ds with
      | ok dc =>
        obtain ⟨d, c'⟩ := dc
        dsimp only at h1
        rw [z] at h1
        have hl : ds.length + 1 = ps.length := by
          by_cases hl : ds.length + 1 = ps.length
          · exact hl
          · rw [hF c ds hl] at z; cases z
        refine ⟨by rw [List.length_cons, q1.length]; exact hl, a, vs, R1, c, xs, ds, rfl, r4, r2, r5, I1.ext.sub, q1, ?_⟩
        rw [z]
        exact fun v R' H' ys x2 n1 n2 n3 n4 => h1 v R' H' x2.rr (I1.potd hc ht x2 n1 n2 n3) n4
      | exc _ => dsimp only at h1; rw [z] at h1; exact h1.elim
      | stuck => dsimp only at h1; rw [z] at h1; exact h1.elim
    · exact h1.elim
  · exact h.elim
theorem Ext.past {R H R2 H2 R' H' : Hp} {a : Addr} (x : Ext R H R2 H2) (n : H a = none) (e : Ext R2 (less H2 a) R' H') : Ext R H R' H' := ⟨x.rr.trans e.rr, e.sub, fun b o q => by
    have nb : b ≠ a := fun z => by rw [z, n] at q; cases q
    exact e.hh _ _ (by rw [less_ne nb]; exact x.hh _ _ q), fun b o q => by
    rcases e.new b o q with z | z | z
    · exact x.new b o z
    · by_cases nb : b = a
      · rw [nb]; exact .inr (.inl n)
      · rw [less_ne nb] at z; exact .inr (.inl (x.hh.free z))
    · exact .inr (.inr z)⟩
theorem de_potE {f : DS → Res D} {ga' : DS → Res (List D)} (he : DN X E e f) (G : FnPd X.prog X.w X.K X.mg X.base k fa fd ps F) (hr : Room k X.A) (hg : Gl X x) (hm : X.mg x = some (.ref fa)) (hk : PySem.W.keepIn X.K (.ref fa) = true) (hb : Binds X.K fd ps []) (tk : Takes X E)
    (hF : ∀ c ds, ds.length + 1 ≠ ps.length → F c ds = .stuck) (ha : DA X E es ga') (hdb : (x == ("__debug__" : Str)) = false := by decide)
    (hst : starEach (e :: es) X.env = (false, eval e X.env) :: starEach es X.env := by rfl) (hpl : (backTo pos (starEach es X.env)).any (·.1) = false := by rfl) :
    DE X E (.Call (.Name x p1) (e :: es) [] pos) (ePotE F f ga') := by
  obtain ⟨u, b1, b2⟩ := he
  obtain ⟨t, a1, a2⟩ := ha
  refine ⟨_, pe_callS (E := fun σ c d H => E c d σ H) G hr hg hm hk hb (fun σ => passAt tk σ) (pa_cons b1 a1 hst) hdb hst hpl, fun σ τ R H Q hs s h => b2 σ τ R H _ hs s ?_⟩
  unfold ePotE at h
  cases zf : f σ with
  | exc x => rw [zf] at h; exact h
  | stuck => rw [zf] at h; exact h
  | ok d =>
    rw [zf] at h
    intro a R1 H1 x1 n1 n2 w
    cases d with
    | dict c =>
      have h' : Post X.K X.mg (xat E τ) (rV X.K) R H Q ((ga' σ).bind fun ds => dropKV (F c ds)) := h
      obtain ⟨xs0, w1, w2⟩ := w
      refine a2 σ τ R1 H1 _ (hs.mono x1.rr) x1.sub ?_
      cases zg : ga' σ with
      | exc x => rw [zg] at h'; exact Post.step x1 (r := (.exc x : Res (List D))) h'
      | stuck => rw [zg] at h'; exact h'.elim
      | ok ds =>
        rw [zg] at h'
        intro vs R2 H2 x2 q2
        have hH2 : H2 a = some (.dT xs0) := x2.hh _ _ w1
        have hR2 : R2 a = none := by
          cases q : R2 a with
          | none => rfl
          | some o =>
            rcases x2.new a o q with z | z | ⟨ys, z⟩
            · rw [n1] at z; cases z
            · rw [w1] at z; cases z
            · have := x2.sub _ _ q
              rw [hH2] at this; cases this; cases z
        cases z : F c ds with
        | exc _ =>
          have h2 : Post X.K X.mg (xat E τ) (rV X.K) R H Q (dropKV (F c ds)) := h'
          rw [z] at h2; exact h2.elim
        | stuck =>
          have h2 : Post X.K X.mg (xat E τ) (rV X.K) R H Q (dropKV (F c ds)) := h'
          rw [z] at h2; exact h2.elim
        | ok dc =>
          obtain ⟨d, c'⟩ := dc
          have h2 : Post X.K X.mg (xat E τ) (rV X.K) R H Q (dropKV (F c ds)) := h'
          rw [z] at h2
          have hl : ds.length + 1 = ps.length := by
            by_cases hl : ds.length + 1 = ps.length
            · exact hl
            · rw [hF c ds hl] at z; cases z
          refine ⟨by rw [List.length_cons, q2.length]; exact hl, a, vs, R2, c, xs0, ds, rfl, hH2, hR2, w2.mono x2.rr, x2.sub, q2, ?_⟩
          rw [z]
          intro v R' H' ys e3 m1 m2 m3 m4
          exact h2 v R' H' ((x1.trans x2).past n2 e3) m4
    | _ => exact h.elim
end
end E3

namespace K73
open PySem PySem.Spec PyProof.Rows L2 E3
noncomputable section

def topS (i : Nat) : Stmt := PySem.Challenge.pw_edgemoss_k73_loose_cells_and_comers.main.body.getD i (.Pass ⟨0, 0, 0, 0⟩)
abbrev s_law_base : Stmt := topS 21
theorem sc_law_base : FnScope ["number", "way", "row", "column", "by"] ["number"] (defScope s_law_base) := ⟨rfl, rfl, rfl, by decide +kernel, rfl, by decide +kernel, by decide +kernel⟩
abbrev s_law_kept : Stmt := topS 20
theorem sc_law_kept : FnScope ["row", "column"] ["row", "column"] (defScope s_law_kept) := ⟨rfl, rfl, rfl, by decide +kernel, rfl, by decide +kernel, by decide +kernel⟩
abbrev s_law_board : Stmt := topS 22
theorem sc_law_board : FnScope ["number", "way", "base", "cells", "many", "k", "at", "top", "tall", "wide", "row", "column", "bits", "gone"] ["number"] (defScope s_law_board) := ⟨rfl, rfl, rfl, by decide +kernel, rfl, by decide +kernel, by decide +kernel⟩
abbrev s_look_finite : Stmt := topS 7
theorem sc_look_finite : FnScope ["shape"] ["shape"] (defScope s_look_finite) := ⟨rfl, rfl, rfl, by decide +kernel, rfl, by decide +kernel, by decide +kernel⟩
abbrev s_noted : Stmt := topS 9
theorem sc_noted : FnScope ["cells", "some", "cell"] ["cells"] (defScope s_noted) := ⟨rfl, rfl, rfl, by decide +kernel, rfl, by decide +kernel, by decide +kernel⟩
abbrev s_flooded : Stmt := topS 8
theorem sc_flooded : FnScope ["some", "start", "steps", "found", "at", "step", "near"] ["some", "start", "steps"] (defScope s_flooded) := ⟨rfl, rfl, rfl, by decide +kernel, rfl, by decide +kernel, by decide +kernel⟩
abbrev s_near_cells : Stmt := topS 11
theorem sc_near_cells : FnScope ["cell", "steps", "step"] ["cell", "steps"] (defScope s_near_cells) := ⟨rfl, rfl, rfl, by decide +kernel, rfl, by decide +kernel, by decide +kernel⟩
abbrev s_why_around : Stmt := topS 12
theorem sc_why_around : FnScope ["some", "rest", "cell", "inside", "lacking", "chain", "near"] ["some", "rest", "cell"] (defScope s_why_around) := ⟨rfl, rfl, rfl, by decide +kernel, rfl, by decide +kernel, by decide +kernel⟩
abbrev s_loose_cells : Stmt := topS 16
theorem sc_loose_cells : FnScope ["shape", "some", "cell"] ["shape"] (defScope s_loose_cells) := ⟨rfl, rfl, rfl, by decide +kernel, rfl, by decide +kernel, by decide +kernel⟩
abbrev s_law_cell : Stmt := topS 18
theorem sc_law_cell : FnScope ["script", "k"] ["script", "k"] (defScope s_law_cell) := ⟨rfl, rfl, rfl, by decide +kernel, rfl, by decide +kernel, by decide +kernel⟩
abbrev s_law_deal : Stmt := topS 19
theorem sc_law_deal : FnScope ["cell", "salt", "one", "number", "j"] ["cell", "salt"] (defScope s_law_deal) := ⟨rfl, rfl, rfl, by decide +kernel, rfl, by decide +kernel, by decide +kernel⟩
abbrev s_law_has : Stmt := topS 24
theorem sc_law_has : FnScope ["shape", "cell"] ["shape", "cell"] (defScope s_law_has) := ⟨rfl, rfl, rfl, by decide +kernel, rfl, by decide +kernel, by decide +kernel⟩
abbrev s_why_loose : Stmt := topS 13
theorem sc_why_loose : FnScope ["shape", "cell", "some"] ["shape", "cell"] (defScope s_why_loose) := ⟨rfl, rfl, rfl, by decide +kernel, rfl, by decide +kernel, by decide +kernel⟩
abbrev s_is_loose : Stmt := topS 14
theorem sc_is_loose : FnScope ["shape", "cell"] ["shape", "cell"] (defScope s_is_loose) := ⟨rfl, rfl, rfl, by decide +kernel, rfl, by decide +kernel, by decide +kernel⟩
abbrev s_may_come : Stmt := topS 15
theorem sc_may_come : FnScope ["shape", "cell", "some"] ["shape", "cell"] (defScope s_may_come) := ⟨rfl, rfl, rfl, by decide +kernel, rfl, by decide +kernel, by decide +kernel⟩
abbrev s_law_around : Stmt := topS 25
theorem sc_law_around : FnScope ["shape", "cell", "found", "row", "column"] ["shape", "cell"] (defScope s_law_around) := ⟨rfl, rfl, rfl, by decide +kernel, rfl, by decide +kernel, by decide +kernel⟩
abbrev s_law_fallen : Stmt := topS 23
theorem sc_law_fallen : FnScope ["cells", "sides", "left", "cell", "found", "part", "at", "row", "column", "near"] ["cells", "sides"] (defScope s_law_fallen) := ⟨rfl, rfl, rfl, by decide +kernel, rfl, by decide +kernel, by decide +kernel⟩
abbrev s_law_word_due : Stmt := topS 26
theorem sc_law_word_due : FnScope ["shape", "cell", "near", "one"] ["shape", "cell"] (defScope s_law_word_due) := ⟨rfl, rfl, rfl, by decide +kernel, rfl, by decide +kernel, by decide +kernel⟩
abbrev s_law_asked : Stmt := topS 28
theorem sc_law_asked : FnScope ["shape", "there", "told"] ["shape", "there"] (defScope s_law_asked) := ⟨rfl, rfl, rfl, by decide +kernel, rfl, by decide +kernel, by decide +kernel⟩
abbrev s_law_full : Stmt := topS 27
theorem sc_law_full : FnScope ["number", "base", "cells", "row", "column", "shape", "k", "at", "by", "spot", "there"] ["number"] (defScope s_law_full) := ⟨rfl, rfl, rfl, by decide +kernel, rfl, by decide +kernel, by decide +kernel⟩
abbrev s_law : Stmt := topS 29
theorem sc_law : FnScope ["script", "cell", "cells", "number", "shape", "spot", "there", "due", "told"] ["script"] (defScope s_law) := ⟨rfl, rfl, rfl, by decide +kernel, rfl, by decide +kernel, by decide +kernel⟩
def wt_AROUND : D := wtD [wtD [.int (-1), .int (-1)], wtD [.int (-1), .int (0)], wtD [.int (-1), .int (1)], wtD [.int (0), .int (-1)], wtD [.int (0), .int (1)], wtD [.int (1), .int (-1)], wtD [.int (1), .int (0)], wtD [.int (1), .int (1)]]
def wt_SIDES : D := wtD [wtD [.int (-1), .int (0)], wtD [.int (0), .int (-1)], wtD [.int (0), .int (1)], wtD [.int (1), .int (0)]]
structure Txt (K : PySem.W.Frag) (mg : Str → Option Value) where
  a_law_base : Addr
  d_law_base : FuncData
  F_law_base : Fun K "_law_base" "_law_base" s_law_base a_law_base d_law_base
  g_law_base : mg "_law_base" = some (.ref a_law_base)
  b_law_base : Binds K d_law_base ["number"] []
  a_law_kept : Addr
  d_law_kept : FuncData
  F_law_kept : Fun K "_law_kept" "_law_kept" s_law_kept a_law_kept d_law_kept
  g_law_kept : mg "_law_kept" = some (.ref a_law_kept)
  b_law_kept : Binds K d_law_kept ["row", "column"] []
  a_law_board : Addr
  d_law_board : FuncData
  F_law_board : Fun K "_law_board" "_law_board" s_law_board a_law_board d_law_board
  g_law_board : mg "_law_board" = some (.ref a_law_board)
  b_law_board : Binds K d_law_board ["number"] []
  a_look_finite : Addr
  d_look_finite : FuncData
  F_look_finite : Fun K "look_finite" "look_finite" s_look_finite a_look_finite d_look_finite
  g_look_finite : mg "look_finite" = some (.ref a_look_finite)
  b_look_finite : Binds K d_look_finite ["shape"] []
  a_noted : Addr
  d_noted : FuncData
  F_noted : Fun K "noted" "noted" s_noted a_noted d_noted
  g_noted : mg "noted" = some (.ref a_noted)
  b_noted : Binds K d_noted ["cells"] []
  a_flooded : Addr
  d_flooded : FuncData
  F_flooded : Fun K "flooded" "flooded" s_flooded a_flooded d_flooded
  g_flooded : mg "flooded" = some (.ref a_flooded)
  b_flooded : Binds K d_flooded ["some", "start", "steps"] []
  a_near_cells : Addr
  d_near_cells : FuncData
  F_near_cells : Fun K "near_cells" "near_cells" s_near_cells a_near_cells d_near_cells
  g_near_cells : mg "near_cells" = some (.ref a_near_cells)
  b_near_cells : Binds K d_near_cells ["cell", "steps"] []
  a_why_around : Addr
  d_why_around : FuncData
  F_why_around : Fun K "why_around" "why_around" s_why_around a_why_around d_why_around
  g_why_around : mg "why_around" = some (.ref a_why_around)
  b_why_around : Binds K d_why_around ["some", "rest", "cell"] []
  a_loose_cells : Addr
  d_loose_cells : FuncData
  F_loose_cells : Fun K "loose_cells" "loose_cells" s_loose_cells a_loose_cells d_loose_cells
  g_loose_cells : mg "loose_cells" = some (.ref a_loose_cells)
  b_loose_cells : Binds K d_loose_cells ["shape"] []
  a_law_cell : Addr
  d_law_cell : FuncData
  F_law_cell : Fun K "_law_cell" "_law_cell" s_law_cell a_law_cell d_law_cell
  g_law_cell : mg "_law_cell" = some (.ref a_law_cell)
  b_law_cell : Binds K d_law_cell ["script", "k"] []
  a_law_deal : Addr
  d_law_deal : FuncData
  F_law_deal : Fun K "_law_deal" "_law_deal" s_law_deal a_law_deal d_law_deal
  g_law_deal : mg "_law_deal" = some (.ref a_law_deal)
  b_law_deal : Binds K d_law_deal ["cell", "salt"] []
  a_law_has : Addr
  d_law_has : FuncData
  F_law_has : Fun K "_law_has" "_law_has" s_law_has a_law_has d_law_has
  g_law_has : mg "_law_has" = some (.ref a_law_has)
  b_law_has : Binds K d_law_has ["shape", "cell"] []
  a_why_loose : Addr
  d_why_loose : FuncData
  F_why_loose : Fun K "why_loose" "why_loose" s_why_loose a_why_loose d_why_loose
  g_why_loose : mg "why_loose" = some (.ref a_why_loose)
  b_why_loose : Binds K d_why_loose ["shape", "cell"] []
  a_is_loose : Addr
  d_is_loose : FuncData
  F_is_loose : Fun K "is_loose" "is_loose" s_is_loose a_is_loose d_is_loose
  g_is_loose : mg "is_loose" = some (.ref a_is_loose)
  b_is_loose : Binds K d_is_loose ["shape", "cell"] []
  a_may_come : Addr
  d_may_come : FuncData
  F_may_come : Fun K "may_come" "may_come" s_may_come a_may_come d_may_come
  g_may_come : mg "may_come" = some (.ref a_may_come)
  b_may_come : Binds K d_may_come ["shape", "cell"] []
  a_law_around : Addr
  d_law_around : FuncData
  F_law_around : Fun K "_law_around" "_law_around" s_law_around a_law_around d_law_around
  g_law_around : mg "_law_around" = some (.ref a_law_around)
  b_law_around : Binds K d_law_around ["shape", "cell"] []
  a_law_fallen : Addr
  d_law_fallen : FuncData
  F_law_fallen : Fun K "_law_fallen" "_law_fallen" s_law_fallen a_law_fallen d_law_fallen
  g_law_fallen : mg "_law_fallen" = some (.ref a_law_fallen)
  b_law_fallen : Binds K d_law_fallen ["cells", "sides"] []
  a_law_word_due : Addr
  d_law_word_due : FuncData
  F_law_word_due : Fun K "_law_word_due" "_law_word_due" s_law_word_due a_law_word_due d_law_word_due
  g_law_word_due : mg "_law_word_due" = some (.ref a_law_word_due)
  b_law_word_due : Binds K d_law_word_due ["shape", "cell"] []
  a_law_asked : Addr
  d_law_asked : FuncData
  F_law_asked : Fun K "_law_asked" "_law_asked" s_law_asked a_law_asked d_law_asked
  g_law_asked : mg "_law_asked" = some (.ref a_law_asked)
  b_law_asked : Binds K d_law_asked ["shape", "there"] []
  a_law_full : Addr
  d_law_full : FuncData
  F_law_full : Fun K "_law_full" "_law_full" s_law_full a_law_full d_law_full
  g_law_full : mg "_law_full" = some (.ref a_law_full)
  b_law_full : Binds K d_law_full ["number"] []
  a_law : Addr
  d_law : FuncData
  F_law : Fun K "law" "law" s_law a_law d_law
  g_law : mg "law" = some (.ref a_law)
  b_law : Binds K d_law ["script"] []
  z_bool : mg "bool" = none
  z_divmod : mg "divmod" = none
  z_int : mg "int" = none
  z_isinstance : mg "isinstance" = none
  z_len : mg "len" = none
  z_list : mg "list" = none
  z_max : mg "max" = none
  z_min : mg "min" = none
  z_range : mg "range" = none
  z_sorted : mg "sorted" = none
  z_tuple : mg "tuple" = none
  ga_AROUND : Addr
  n_AROUND : mg "AROUND" = some (.ref ga_AROUND)
  w_AROUND : ∀ R, Rp K R (.ref ga_AROUND) wt_AROUND
  ga_SIDES : Addr
  n_SIDES : mg "SIDES" = some (.ref ga_SIDES)
  w_SIDES : ∀ R, Rp K R (.ref ga_SIDES) wt_SIDES
section
variable {P : Program} {w : World} {K : PySem.W.Frag} {mg : Str → Option Value} {base : Heap}
def C_law_base_1 : SF := (sRet (eTup (aCons (eTup (aCons (eC (.int 0)) (aCons (eC (.int 0)) aNil))) (aCons (eVar 0) aNil))))
def D_law_base : List D → Res D := fnD 5 1 (sSeq (sAsg (gT 2 (gsCons (gN 0) (gsCons (gN 1) gsNil))) (eCall divmodD (aCons (eVar 0) (aCons (eC (.int 5)) aNil))))
  (sSeq (sIf (tB (e2 gtD (eVar 1) (eC (.int 1)))) C_law_base_1 sNil)
  (sSeq (sAsg (gT 2 (gsCons (gN 0) (gsCons (gN 2) gsNil))) (eCall divmodD (aCons (eVar 0) (aCons (e2 ixD (eLst (aCons (e2 addD (e2 mulD (eC (.int 2)) (e2 powD (eC (.int 10)) (eC (.int 12)))) (eC (.int 1))) (aCons (eC (.int 2)) aNil))) (eVar 1)) aNil))))
  (sSeq (sAsg (gT 2 (gsCons (gN 0) (gsCons (gN 3) gsNil))) (eCall divmodD (aCons (eVar 0) (aCons (e2 ixD (eLst (aCons (e2 addD (e2 mulD (eC (.int 2)) (e2 powD (eC (.int 10)) (eC (.int 12)))) (eC (.int 1))) (aCons (eC (.int 2)) aNil))) (eVar 1)) aNil))))
  (sSeq (sSet 4 (e2 ixD (eLst (aCons (eC (.int 1)) (aCons (e2 mulD (eC (.int 2)) (e2 powD (eC (.int 10)) (eC (.int 12)))) aNil))) (eVar 1)))
  (sRet (eTup (aCons (eTup (aCons (e2 subD (e2 mulD (eVar 2) (eVar 4)) (e2 powD (eC (.int 10)) (eC (.int 12)))) (aCons (e2 subD (e2 mulD (eVar 3) (eVar 4)) (e2 powD (eC (.int 10)) (eC (.int 12)))) aNil))) (aCons (eVar 0) aNil)))))))))
theorem ok_law_base (T : Txt K mg) : FnD P w K mg base 1 T.a_law_base T.d_law_base ["number"] D_law_base := fn_mk T.F_law_base sc_law_base fun cdv A outer s H Ex hr =>
  (dss_cons (ds_asg (de_callB (cd_divmod) (by rfl) T.z_divmod (by decide +kernel) (da_cons (de_var 0) (da_cons de_int da_nil))) (dg_tup rfl (dgs_cons (dg_name (i := 0) sc_law_base.nd rfl (by first | exact .inl rfl | exact .inr rfl)) (dgs_cons (dg_name (i := 1) sc_law_base.nd rfl (by first | exact .inl rfl | exact .inr rfl)) dgs_nil))))
  (dss_cons (ds_if (dt_cmp od_gt (de_var 1) de_int) (dss_one (ds_ret (de_tup (da_cons (de_tup (da_cons de_int (da_cons de_int da_nil))) (da_cons (de_var 0) da_nil))))) dss_nil)
  (dss_cons (ds_asg (de_callB (cd_divmod) (by rfl) T.z_divmod (by decide +kernel) (da_cons (de_var 0) (da_cons (de_ix id_ix (DN.de (dn_lst (da_cons (de_op od_add (de_op od_mul de_int (de_op od_pow de_int de_int)) de_int) (da_cons de_int da_nil)))) (de_var 1)) da_nil))) (dg_tup rfl (dgs_cons (dg_name (i := 0) sc_law_base.nd rfl (by first | exact .inl rfl | exact .inr rfl)) (dgs_cons (dg_name (i := 2) sc_law_base.nd rfl (by first | exact .inl rfl | exact .inr rfl)) dgs_nil))))
  (dss_cons (ds_asg (de_callB (cd_divmod) (by rfl) T.z_divmod (by decide +kernel) (da_cons (de_var 0) (da_cons (de_ix id_ix (DN.de (dn_lst (da_cons (de_op od_add (de_op od_mul de_int (de_op od_pow de_int de_int)) de_int) (da_cons de_int da_nil)))) (de_var 1)) da_nil))) (dg_tup rfl (dgs_cons (dg_name (i := 0) sc_law_base.nd rfl (by first | exact .inl rfl | exact .inr rfl)) (dgs_cons (dg_name (i := 3) sc_law_base.nd rfl (by first | exact .inl rfl | exact .inr rfl)) dgs_nil))))
  (dss_cons (ds_set 4 sc_law_base.nd rfl (by first | exact .inl rfl | exact .inr rfl) (de_ix id_ix (DN.de (dn_lst (da_cons de_int (da_cons (de_op od_mul de_int (de_op od_pow de_int de_int)) da_nil)))) (de_var 1)))
  (dss_one (ds_ret (de_tup (da_cons (de_tup (da_cons (de_op od_sub (de_op od_mul (de_var 2) (de_var 4)) (de_op od_pow de_int de_int)) (da_cons (de_op od_sub (de_op od_mul (de_var 3) (de_var 4)) (de_op od_pow de_int de_int)) da_nil))) (da_cons (de_var 0) da_nil))))))))))
def D_law_kept : List D → Res D := fnD 2 2 (sRet (eTup (aCons (eCall max2D (aCons (e1 negD (e2 powD (eC (.int 10)) (eC (.int 12)))) (aCons (eCall min2D (aCons (e2 powD (eC (.int 10)) (eC (.int 12))) (aCons (eVar 0) aNil))) aNil))) (aCons (eCall max2D (aCons (e1 negD (e2 powD (eC (.int 10)) (eC (.int 12)))) (aCons (eCall min2D (aCons (e2 powD (eC (.int 10)) (eC (.int 12))) (aCons (eVar 1) aNil))) aNil))) aNil))))
theorem ok_law_kept (T : Txt K mg) : FnD P w K mg base 1 T.a_law_kept T.d_law_kept ["row", "column"] D_law_kept := fn_mk T.F_law_kept sc_law_kept fun cdv A outer s H Ex hr =>
  (dss_one (ds_ret (de_tup (da_cons (de_callB (cd_max2 rfl) (by rfl) T.z_max (by decide +kernel) (da_cons (de_un ud_neg (de_op od_pow de_int de_int)) (da_cons (de_callB (cd_min2 rfl) (by rfl) T.z_min (by decide +kernel) (da_cons (de_op od_pow de_int de_int) (da_cons (de_var 0) da_nil))) da_nil))) (da_cons (de_callB (cd_max2 rfl) (by rfl) T.z_max (by decide +kernel) (da_cons (de_un ud_neg (de_op od_pow de_int de_int)) (da_cons (de_callB (cd_min2 rfl) (by rfl) T.z_min (by decide +kernel) (da_cons (de_op od_pow de_int de_int) (da_cons (de_var 1) da_nil))) da_nil))) da_nil)))))
def I_law_board_1 : DS → Res (List D) := (fun σ => ((aCons (e2 addD (eVar 4) (eC (.int 1))) aNil) σ).bind rng1)
def B_law_board_1 : SF := (sSeq (sAsg (gT 2 (gsCons (gN 0) (gsCons (gN 6) gsNil))) (eCall divmodD (aCons (eVar 0) (aCons (eC (.int 25)) aNil))))
  (sPut 3 (eCall D_law_kept (aCons (e2 addD (e2 ixD (eVar 2) (eC (.int 0))) (e2 fdivD (eVar 6) (eC (.int 5)))) (aCons (e2 addD (e2 ixD (eVar 2) (eC (.int 1))) (e2 modD (eVar 6) (eC (.int 5)))) aNil))) (eC (.bool true))))
def C_law_board_1 : SF := (sFor I_law_board_1 (gN 5)
  B_law_board_1)
def C_law_board_2 : SF := (sPut 3 (eCall D_law_kept (aCons (e2 addD (e2 addD (e2 ixD (eVar 2) (eC (.int 0))) (eVar 7)) (eVar 10)) (aCons (e2 addD (e2 subD (e2 addD (e2 ixD (eVar 2) (eC (.int 1))) (e2 mulD (eC (.int 3)) (eVar 5))) (eVar 7)) (eVar 11)) aNil))) (eC (.bool true)))
def I_law_board_2 : DS → Res (List D) := (fun σ => ((aCons (e2 addD (eC (.int 1)) (eVar 9)) aNil) σ).bind rng1)
def B_law_board_2 : SF := (sIf (E3.tOr (tB (e2 inG (eVar 10) (eTup (aCons (eC (.int 0)) (aCons (eVar 8) aNil))))) (tB (e2 inG (eVar 11) (eTup (aCons (eC (.int 0)) (aCons (eVar 9) aNil)))))) C_law_board_2 sNil)
def I_law_board_3 : DS → Res (List D) := (fun σ => ((aCons (e2 addD (eC (.int 1)) (eVar 8)) aNil) σ).bind rng1)
def B_law_board_3 : SF := (sFor I_law_board_2 (gN 11)
  B_law_board_2)
def I_law_board_4 : DS → Res (List D) := (fun σ => ((aCons (e2 addD (eC (.int 1)) (e2 modD (eVar 4) (eC (.int 3)))) aNil) σ).bind rng1)
def B_law_board_4 : SF := (sSeq (sAsg (gT 2 (gsCons (gN 0) (gsCons (gN 7) gsNil))) (eCall divmodD (aCons (eVar 0) (aCons (eC (.int 4)) aNil))))
  (sSeq (sAsg (gT 2 (gsCons (gN 0) (gsCons (gN 8) gsNil))) (eCall divmodD (aCons (eVar 0) (aCons (eC (.int 5)) aNil))))
  (sSeq (sAsg (gT 2 (gsCons (gN 0) (gsCons (gN 9) gsNil))) (eCall divmodD (aCons (eVar 0) (aCons (eC (.int 5)) aNil))))
  (sFor I_law_board_3 (gN 10)
  B_law_board_3))))
def C_law_board_3 : SF := (sFor I_law_board_4 (gN 5)
  B_law_board_4)
def C_law_board_4 : SF := (sPut 3 (eCall D_law_kept (aCons (e2 addD (e2 ixD (eVar 2) (eC (.int 0))) (eVar 10)) (aCons (e2 addD (e2 ixD (eVar 2) (eC (.int 1))) (eVar 11)) aNil))) (eC (.bool true)))
def I_law_board_5 : DS → Res (List D) := (fun σ => ((aCons (eC (.int 6)) aNil) σ).bind rng1)
def B_law_board_5 : SF := (sIf (tB (e2 eqD (e2 andD (e2 shrD (eVar 12) (eVar 11)) (eC (.int 1))) (eC (.int 1)))) C_law_board_4 sNil)
def I_law_board_6 : DS → Res (List D) := (fun σ => ((aCons (e2 addD (eVar 4) (eC (.int 1))) aNil) σ).bind rng1)
def B_law_board_6 : SF := (sSeq (sAsg (gT 2 (gsCons (gN 0) (gsCons (gN 12) gsNil))) (eCall divmodD (aCons (eVar 0) (aCons (eC (.int 64)) aNil))))
  (sFor I_law_board_5 (gN 11)
  B_law_board_5))
def C_law_board_5 : SF := (sFor I_law_board_6 (gN 10)
  B_law_board_6)
def I_law_board_7 : DS → Res (List D) := (fun σ => ((aCons (eCall min2D (aCons (eVar 13) (aCons (eCall lenAny (aCons (eVar 3) aNil)) aNil))) aNil) σ).bind rng1)
def B_law_board_7 : SF := (sSeq (sAsgV (gT 2 (gsCons (gN 0) (gsCons (gN 6) gsNil))) (eCall divmodD (aCons (eVar 0) (aCons (eCall lenAny (aCons (eVar 3) aNil)) aNil))))
  (sPopD 3 (aCons (e2 ixD (eCall sortAnyD (aCons (eVar 3) aNil)) (eVar 6)) aNil)))
def T_law_board_1 : SF := (sFreeze 3 (sRet (eTup (aCons (eCall tupleD (aCons (eCall sortAnyD (aCons (eVar 3) aNil)) aNil)) (aCons (eVar 0) aNil)))))
def D_law_board : List D → Res D := fnD 14 1 (sSeq (sAsg (gT 2 (gsCons (gN 0) (gsCons (gN 1) gsNil))) (eCall divmodD (aCons (eVar 0) (aCons (eC (.int 5)) aNil))))
  (sSeq (sAsg (gT 2 (gsCons (gN 2) (gsCons (gN 0) gsNil))) (eCall D_law_base (aCons (eVar 0) aNil)))
  (sSeq (sNew 3 (eC (.dict [])))
  (sSeq (sAsg (gT 2 (gsCons (gN 0) (gsCons (gN 4) gsNil))) (eCall divmodD (aCons (eVar 0) (aCons (eC (.int 6)) aNil))))
  (sSeq (sIf (tB (e2 eqD (eVar 1) (eC (.int 0)))) C_law_board_1 sNil)
  (sSeq (sIf (tB (e2 eqD (eVar 1) (eC (.int 1)))) C_law_board_3 sNil)
  (sSeq (sIf (tB (e2 gtD (eVar 1) (eC (.int 1)))) C_law_board_5 sNil)
  (sSeq (sAsg (gT 2 (gsCons (gN 0) (gsCons (gN 13) gsNil))) (eCall divmodD (aCons (eVar 0) (aCons (eC (.int 3)) aNil))))
  (sSeq (sForR I_law_board_7 (gN 5)
  B_law_board_7)
  T_law_board_1)))))))))
theorem ok_law_board (T : Txt K mg) : FnD P w K mg base 2 T.a_law_board T.d_law_board ["number"] D_law_board := fn_mk T.F_law_board sc_law_board fun cdv A outer s H Ex hr =>
  (dss_cons (ds_asg (de_callB (cd_divmod) (by rfl) T.z_divmod (by decide +kernel) (da_cons (de_var 0) (da_cons de_int da_nil))) (dg_tup rfl (dgs_cons (dg_name (i := 0) sc_law_board.nd rfl (by first | exact .inl rfl | exact .inr rfl)) (dgs_cons (dg_name (i := 1) sc_law_board.nd rfl (by first | exact .inl rfl | exact .inr rfl)) dgs_nil))))
  (dss_cons (ds_asg (de_call (ok_law_base T) (hr.mono (by decide)) (by rfl) T.g_law_base T.F_law_base.kp T.b_law_base (takes_of rfl rfl rfl rfl) fnD_len (da_cons (de_var 0) da_nil)) (dg_tup rfl (dgs_cons (dg_name (i := 2) sc_law_board.nd rfl (by first | exact .inl rfl | exact .inr rfl)) (dgs_cons (dg_name (i := 0) sc_law_board.nd rfl (by first | exact .inl rfl | exact .inr rfl)) dgs_nil))))
  (dss_cons (ds_new 3 sc_law_board.nd rfl (by first | exact .inl rfl | exact .inr rfl) (dn_dict))
  (dss_cons (ds_asg (de_callB (cd_divmod) (by rfl) T.z_divmod (by decide +kernel) (da_cons (de_var 0) (da_cons de_int da_nil))) (dg_tup rfl (dgs_cons (dg_name (i := 0) sc_law_board.nd rfl (by first | exact .inl rfl | exact .inr rfl)) (dgs_cons (dg_name (i := 4) sc_law_board.nd rfl (by first | exact .inl rfl | exact .inr rfl)) dgs_nil))))
  (dss_cons (ds_if (dt_cmp (od_eq (hu64 hr)) (de_var 1) de_int) (dss_one (ds_for (passes_of rfl) rfl ((DR.di (dr_range1 (by rfl) T.z_range (da_cons (de_op od_add (de_var 4) de_int) da_nil)))) (dg_name (i := 5) sc_law_board.nd rfl (by first | exact .inl rfl | exact .inr rfl))
  (dss_cons (ds_asg (de_callB (cd_divmod) (by rfl) T.z_divmod (by decide +kernel) (da_cons (de_var 0) (da_cons de_int da_nil))) (dg_tup rfl (dgs_cons (dg_name (i := 0) sc_law_board.nd rfl (by first | exact .inl rfl | exact .inr rfl)) (dgs_cons (dg_name (i := 6) sc_law_board.nd rfl (by first | exact .inl rfl | exact .inr rfl)) dgs_nil))))
  (dss_one (ds_put 3 (hu65 hr) (isv 3) (de_call (ok_law_kept T) (hr.mono (by decide)) (by rfl) T.g_law_kept T.F_law_kept.kp T.b_law_kept (takes_of rfl rfl rfl rfl) fnD_len (da_cons (de_op od_add (de_ix id_ix (de_var 2) de_int) (de_op od_fdiv (de_var 6) de_int)) (da_cons (de_op od_add (de_ix id_ix (de_var 2) de_int) (de_op od_mod (de_var 6) de_int)) da_nil))) de_bl))))) dss_nil)
  (dss_cons (ds_if (dt_cmp (od_eq (hu64 hr)) (de_var 1) de_int) (dss_one (ds_for (passes_of rfl) rfl ((DR.di (dr_range1 (by rfl) T.z_range (da_cons (de_op od_add de_int (de_op od_mod (de_var 4) de_int)) da_nil)))) (dg_name (i := 5) sc_law_board.nd rfl (by first | exact .inl rfl | exact .inr rfl))
  (dss_cons (ds_asg (de_callB (cd_divmod) (by rfl) T.z_divmod (by decide +kernel) (da_cons (de_var 0) (da_cons de_int da_nil))) (dg_tup rfl (dgs_cons (dg_name (i := 0) sc_law_board.nd rfl (by first | exact .inl rfl | exact .inr rfl)) (dgs_cons (dg_name (i := 7) sc_law_board.nd rfl (by first | exact .inl rfl | exact .inr rfl)) dgs_nil))))
  (dss_cons (ds_asg (de_callB (cd_divmod) (by rfl) T.z_divmod (by decide +kernel) (da_cons (de_var 0) (da_cons de_int da_nil))) (dg_tup rfl (dgs_cons (dg_name (i := 0) sc_law_board.nd rfl (by first | exact .inl rfl | exact .inr rfl)) (dgs_cons (dg_name (i := 8) sc_law_board.nd rfl (by first | exact .inl rfl | exact .inr rfl)) dgs_nil))))
  (dss_cons (ds_asg (de_callB (cd_divmod) (by rfl) T.z_divmod (by decide +kernel) (da_cons (de_var 0) (da_cons de_int da_nil))) (dg_tup rfl (dgs_cons (dg_name (i := 0) sc_law_board.nd rfl (by first | exact .inl rfl | exact .inr rfl)) (dgs_cons (dg_name (i := 9) sc_law_board.nd rfl (by first | exact .inl rfl | exact .inr rfl)) dgs_nil))))
  (dss_one (ds_for (passes_of rfl) rfl ((DR.di (dr_range1 (by rfl) T.z_range (da_cons (de_op od_add de_int (de_var 8)) da_nil)))) (dg_name (i := 10) sc_law_board.nd rfl (by first | exact .inl rfl | exact .inr rfl))
  (dss_one (ds_for (passes_of rfl) rfl ((DR.di (dr_range1 (by rfl) T.z_range (da_cons (de_op od_add de_int (de_var 9)) da_nil)))) (dg_name (i := 11) sc_law_board.nd rfl (by first | exact .inl rfl | exact .inr rfl))
  (dss_one (ds_if (DW.pt (dw_or (dt_cmp (od_inG (hu65 hr)) (de_var 10) (de_tup (da_cons de_int (da_cons (de_var 8) da_nil)))) (dw_or1 (dt_cmp (od_inG (hu65 hr)) (de_var 11) (de_tup (da_cons de_int (da_cons (de_var 9) da_nil))))))) (dss_one (ds_put 3 (hu65 hr) (isv 3) (de_call (ok_law_kept T) (hr.mono (by decide)) (by rfl) T.g_law_kept T.F_law_kept.kp T.b_law_kept (takes_of rfl rfl rfl rfl) fnD_len (da_cons (de_op od_add (de_op od_add (de_ix id_ix (de_var 2) de_int) (de_var 7)) (de_var 10)) (da_cons (de_op od_add (de_op od_sub (de_op od_add (de_ix id_ix (de_var 2) de_int) (de_op od_mul de_int (de_var 5))) (de_var 7)) (de_var 11)) da_nil))) de_bl)) dss_nil))))))))))) dss_nil)
  (dss_cons (ds_if (dt_cmp od_gt (de_var 1) de_int) (dss_one (ds_for (passes_of rfl) rfl ((DR.di (dr_range1 (by rfl) T.z_range (da_cons (de_op od_add (de_var 4) de_int) da_nil)))) (dg_name (i := 10) sc_law_board.nd rfl (by first | exact .inl rfl | exact .inr rfl))
  (dss_cons (ds_asg (de_callB (cd_divmod) (by rfl) T.z_divmod (by decide +kernel) (da_cons (de_var 0) (da_cons de_int da_nil))) (dg_tup rfl (dgs_cons (dg_name (i := 0) sc_law_board.nd rfl (by first | exact .inl rfl | exact .inr rfl)) (dgs_cons (dg_name (i := 12) sc_law_board.nd rfl (by first | exact .inl rfl | exact .inr rfl)) dgs_nil))))
  (dss_one (ds_for (passes_of rfl) rfl ((DR.di (dr_range1 (by rfl) T.z_range (da_cons de_int da_nil)))) (dg_name (i := 11) sc_law_board.nd rfl (by first | exact .inl rfl | exact .inr rfl))
  (dss_one (ds_if (dt_cmp (od_eq (hu64 hr)) (de_op od_and (de_op od_shr (de_var 12) (de_var 11)) de_int) de_int) (dss_one (ds_put 3 (hu65 hr) (isv 3) (de_call (ok_law_kept T) (hr.mono (by decide)) (by rfl) T.g_law_kept T.F_law_kept.kp T.b_law_kept (takes_of rfl rfl rfl rfl) fnD_len (da_cons (de_op od_add (de_ix id_ix (de_var 2) de_int) (de_var 10)) (da_cons (de_op od_add (de_ix id_ix (de_var 2) de_int) (de_var 11)) da_nil))) de_bl)) dss_nil))))))) dss_nil)
  (dss_cons (ds_asg (de_callB (cd_divmod) (by rfl) T.z_divmod (by decide +kernel) (da_cons (de_var 0) (da_cons de_int da_nil))) (dg_tup rfl (dgs_cons (dg_name (i := 0) sc_law_board.nd rfl (by first | exact .inl rfl | exact .inr rfl)) (dgs_cons (dg_name (i := 13) sc_law_board.nd rfl (by first | exact .inl rfl | exact .inr rfl)) dgs_nil))))
  (dss_cons (ds_forR (passes_of rfl) rfl (dr_range1 (by rfl) T.z_range (da_cons (de_callB (cd_min2 rfl) (by rfl) T.z_min (by decide +kernel) (da_cons (de_var 13) (da_cons (de_callB cd_lenA (by rfl) T.z_len (by decide +kernel) (da_cons (de_var 3) da_nil)) da_nil))) da_nil)) (dg_name (i := 5) sc_law_board.nd rfl (by first | exact .inl rfl | exact .inr rfl))
  (dss_cons (ds_asgV (de_callB (cd_divmod) (by rfl) T.z_divmod (by decide +kernel) (da_cons (de_var 0) (da_cons (de_callB cd_lenA (by rfl) T.z_len (by decide +kernel) (da_cons (de_var 3) da_nil)) da_nil))) (dg_tup rfl (dgs_cons (dg_name (i := 0) sc_law_board.nd rfl (by first | exact .inl rfl | exact .inr rfl)) (dgs_cons (dg_name (i := 6) sc_law_board.nd rfl (by first | exact .inl rfl | exact .inr rfl)) dgs_nil))))
  (dss_one (ds_popD 3 (hu65 hr) (isv 3) (da_cons (de_ix id_ix (DN.de (dn_callB (cn_sortAny rfl (hu70 hr)) (by rfl) T.z_sorted (by decide +kernel) (da_cons (de_var 3) da_nil))) (de_var 6)) da_nil) rfl (fun hm ho ha => pe_bm PySem.F.plainAttrs_dict PySem.F.slot_dict_pop PySem.F.type_dict_pop hm ho ha)))))
  (dss_freeze 3 (dss_one (ds_ret (de_tup (da_cons (de_callTy (cd_tuple) (by rfl) T.z_tuple (by decide +kernel) (da_cons (DN.de (dn_callB (cn_sortAny rfl (hu70 hr)) (by rfl) T.z_sorted (by decide +kernel) (da_cons (de_var 3) da_nil))) da_nil)) (da_cons (de_var 0) da_nil)))))))))))))))
def D_look_finite : List D → Res D := fnD 1 1 (sIf (E3.tB (e2 ixD (eVar 0) (eC (.int 1)))) sStuck sNil)
theorem ok_look_finite (T : Txt K mg) : FnD P w K mg base 1 T.a_look_finite T.d_look_finite ["shape"] D_look_finite := fn_mk T.F_look_finite sc_look_finite fun cdv A outer s H Ex hr =>
  (dss_one (ds_if (dt_val (de_ix id_ix (de_var 0) de_int)) (dss_one ds_never) dss_nil))
def I_noted_1 : DS → Res (List D) := (fun σ => ((eVar 0) σ).bind seqOf)
def D_noted : List D → Res D := fnN 3 1 (sSeq (sNew 1 (eC (.dict [])))
  (sSeq (sFor I_noted_1 (gN 2)
  (qPut 1 (xM (eVar 2)) (eC (.bool true))))
  (qRetO 1)))
theorem ok_noted (T : Txt K mg) : FnN P w K mg base 1 T.a_noted T.d_noted ["cells"] D_noted := fn_mkN T.F_noted sc_noted fun cdv A outer s H Ex hr =>
  (dqs_cons (dq_new 1 sc_noted.nd rfl (by first | exact .inl rfl | exact .inr rfl) (dn_dict))
  (dqs_cons (dq_for (passes_of rfl) rfl ((di_seq (de_var 0))) (dg_name (i := 2) sc_noted.nd rfl (by first | exact .inl rfl | exact .inr rfl))
  (dqs_one (dq_put 1 (hu65 hr) (isv 1) (xe_mask (de_var 2)) de_bl)))
  (dqs_one (dq_retO 1 (isv 1)))))
def C_flooded_1 : SF := (sSeq (qPopD 0 (xCons (xM (eVar 6)) xNil))
  (qMut 3 appendM (xCons (xM (eVar 6)) xNil)))
def I_flooded_1 : DS → Res (List D) := (fun σ => ((eVar 2) σ).bind seqOf)
def B_flooded_1 : SF := (sSeq (qSet 6 (xV (eTup (aCons (e2 addD (e2 ixD (e2 ixD (eVar 3) (eVar 4)) (eC (.int 0))) (e2 ixD (eVar 5) (eC (.int 0)))) (aCons (e2 addD (e2 ixD (e2 ixD (eVar 3) (eVar 4)) (eC (.int 1))) (e2 ixD (eVar 5) (eC (.int 1)))) aNil)))))
  (qIf (xB (tB (e2 inG (eVar 6) (eVar 0)))) C_flooded_1 sNil))
def B_flooded_2 : SF := (sSeq (sFor I_flooded_1 (gN 5)
  B_flooded_1)
  (qSet 4 (xM (e2 addD (eVar 4) (eC (.int 1))))))
def D_flooded : PFd := fnPd 7 3 (sSeq (sNew 3 (eLst (aCons (eVar 1) aNil)))
  (sSeq (qPopD 0 (xCons (xM (eVar 1)) xNil))
  (sSeq (qSet 4 (xM (eC (.int 0))))
  (sSeq (sWhile (tB (e2 ltD (eVar 4) (eCall lenD (aCons (eVar 3) aNil))))
  B_flooded_2)
  (sFreeze 3 (qRet (xM (eVar 3))))))))
theorem ok_flooded (T : Txt K mg) : FnPd P w K mg base 1 T.a_flooded T.d_flooded ["some", "start", "steps"] D_flooded := fn_mkPd T.F_flooded sc_flooded fun cdv A outer s H Ex hr =>
  (dqs_cons (dq_new 3 sc_flooded.nd rfl (by first | exact .inl rfl | exact .inr rfl) (dn_lst (da_cons (de_var 1) da_nil)))
  (dqs_cons (dq_popD 0 (hu65 hr) (isv 0) (xa_cons (xe_mask (de_var 1)) xa_nil) (fun hm ho ha => pe_bm PySem.F.plainAttrs_dict PySem.F.slot_dict_pop PySem.F.type_dict_pop hm ho ha))
  (dqs_cons (dq_set 4 sc_flooded.nd rfl (by first | exact .inl rfl | exact .inr rfl) (xe_mask de_int))
  (dqs_cons (dq_while (passes_of rfl) (dt_cmp od_lt (de_var 4) (de_callB (cd_len) (by rfl) T.z_len (by decide +kernel) (da_cons (de_var 3) da_nil)))
  (dqs_cons (dq_for (passes_of rfl) rfl ((di_seq (de_var 2))) (dg_name (i := 5) sc_flooded.nd rfl (by first | exact .inl rfl | exact .inr rfl))
  (dqs_cons (dq_set 6 sc_flooded.nd rfl (by first | exact .inl rfl | exact .inr rfl) (xe_view (de_tup (da_cons (de_op od_add (de_ix id_ix (de_ix id_ix (de_var 3) (de_var 4)) de_int) (de_ix id_ix (de_var 5) de_int)) (da_cons (de_op od_add (de_ix id_ix (de_ix id_ix (de_var 3) (de_var 4)) de_int) (de_ix id_ix (de_var 5) de_int)) da_nil)))))
  (dqs_one (dq_if (xt_view (dt_cmp (od_inG (hu65 hr)) (de_var 6) (de_var 0))) (dqs_cons (dq_popD 0 (hu65 hr) (isv 0) (xa_cons (xe_mask (de_var 6)) xa_nil) (fun hm ho ha => pe_bm PySem.F.plainAttrs_dict PySem.F.slot_dict_pop PySem.F.type_dict_pop hm ho ha))
  (dqs_one (dq_mut 3 (isv 3) md_append (fun hm ho ha => pe_bm PySem.F.plainAttrs_list PySem.F.slot_list_append PySem.F.type_list_append hm ho ha) (xa_cons (xe_mask (de_var 6)) xa_nil)))) dqs_nil))))
  (dqs_one (dq_set 4 sc_flooded.nd rfl (by first | exact .inl rfl | exact .inr rfl) (xe_mask (de_op od_add (de_var 4) de_int))))))
  (dqs_freeze 3 (dqs_one (dq_retP (xe_mask (de_var 3)) (by decide))))))))
def D_near_cells : List D → Res D := fnD 3 2 (sRet (eLc (fun σ => ((eVar 1) σ).bind seqOf) (gN 2) [2] tYesD (eTup (aCons (e2 addD (e2 ixD (eVar 0) (eC (.int 0))) (e2 ixD (eVar 2) (eC (.int 0)))) (aCons (e2 addD (e2 ixD (eVar 0) (eC (.int 1))) (e2 ixD (eVar 2) (eC (.int 1)))) aNil)))))
theorem ok_near_cells (T : Txt K mg) : FnD P w K mg base 1 T.a_near_cells T.d_near_cells ["cell", "steps"] D_near_cells := fn_mk T.F_near_cells sc_near_cells fun cdv A outer s H Ex hr =>
  (dss_one (ds_ret (DN.de (dn_lc (own := [("step", 2)]) (pt := (gN 2)) (ix := [2]) rfl sc_near_cells.nd (di_seq (de_var 1)) (blkOk_by (own := [("step", 2)]) (N := ["cell", "steps", "step"]) (sc := defScope s_near_cells) (by decide +kernel)) (by decide) (fun _ _ _ _ _ => (dg_name (i := 2) sc_near_cells.nd rfl (by first | exact .inl rfl | exact .inr rfl))) (fun _ _ _ _ _ => dts_nil) (fun _ _ _ _ _ => (de_tup (da_cons (de_op od_add (de_ix id_ix (de_var 0) de_int) (de_ix id_ix (de_var 2) de_int)) (da_cons (de_op od_add (de_ix id_ix (de_var 0) de_int) (de_ix id_ix (de_var 2) de_int)) da_nil))))))))
def C_why_around_1 : SF := (sRet (eTup (aCons (eC (.str "bridge")) (aCons (eCall tupleD (aCons (eCall sortedD (aCons (eVar 5) aNil)) aNil)) aNil))))
def D_why_around : List D → Res D := fnD 7 3 (sSeq (sSet 3 (eLc (fun σ => ((eCall D_near_cells (aCons (eVar 2) (aCons (eC wt_AROUND) aNil))) σ).bind seqOf) (gN 6) [6] (tB (e2 neD (e2 inG (eVar 6) (eVar 0)) (eVar 1))) (eVar 6)))
  (sSeq (sIf (tB (e2 eqD (eVar 3) (eLst aNil))) (sRet (eTup (aCons (eC (.str "alone")) aNil))) sNil)
  (sSeq (sSet 4 (eLc (fun σ => ((eCall D_near_cells (aCons (eVar 2) (aCons (eC wt_SIDES) aNil))) σ).bind seqOf) (gN 6) [6] (tB (e2 eqD (e2 inG (eVar 6) (eVar 0)) (eVar 1))) (eVar 6)))
  (sSeq (sIf (tB (e2 eqD (eVar 4) (eLst aNil))) (sRet (eTup (aCons (eC (.str "inner")) aNil))) sNil)
  (sSeq (sSet 5 (ePotE D_flooded (eCall D_noted (aCons (eVar 3) aNil)) (aCons (e2 ixD (eVar 3) (eC (.int 0))) (aCons (eC wt_AROUND) aNil))))
  (sSeq (sIf (tB (e2 ltD (eCall lenD (aCons (eVar 5) aNil)) (eCall lenD (aCons (eVar 3) aNil)))) C_why_around_1 sNil)
  (sRet (eTup (aCons (eC (.str "loose")) (aCons (eVar 5) (aCons (e2 ixD (eVar 4) (eC (.int 0))) aNil)))))))))))
theorem ok_why_around (T : Txt K mg) : FnD P w K mg base 2 T.a_why_around T.d_why_around ["some", "rest", "cell"] D_why_around := fn_mk T.F_why_around sc_why_around fun cdv A outer s H Ex hr =>
  (dss_cons (ds_setLc 3 (own := [("near", 6)]) (pt := (gN 6)) (ix := [6]) rfl sc_why_around.nd rfl rfl (sw_true rfl rfl rfl (by decide +kernel)) (di_seq (de_call (ok_near_cells T) (hr.mono (by decide)) (by rfl) T.g_near_cells T.F_near_cells.kp T.b_near_cells (takes_of rfl rfl rfl rfl) fnD_len (da_cons (de_var 2) (da_cons (de_glob (v := .ref _) (by rfl) T.n_AROUND rfl T.w_AROUND) da_nil)))) (blkOk_by (own := [("near", 6)]) (N := ["some", "rest", "cell", "inside", "lacking", "chain", "near"]) (sc := defScope s_why_around) (by decide +kernel)) (by decide) (fun _ _ _ _ _ => (dg_name (i := 6) sc_why_around.nd rfl (by first | exact .inl rfl | exact .inr rfl))) (fun _ _ _ _ _ => (dts_one (dt_cmp (od_ne (hu64 hr)) (de_cmp (od_inG (hu65 hr)) (de_var 6) (de_var 0)) (de_var 1)))) (fun _ _ _ _ _ => (de_var 6)))
  (dss_cons (ds_if (dt_cmp (od_eq (hu64 hr)) (de_var 3) (DN.de (dn_lst da_nil))) (dss_one (ds_ret (de_tup (da_cons de_str da_nil)))) dss_nil)
  (dss_cons (ds_setLc 4 (own := [("near", 6)]) (pt := (gN 6)) (ix := [6]) rfl sc_why_around.nd rfl rfl (sw_true rfl rfl rfl (by decide +kernel)) (di_seq (de_call (ok_near_cells T) (hr.mono (by decide)) (by rfl) T.g_near_cells T.F_near_cells.kp T.b_near_cells (takes_of rfl rfl rfl rfl) fnD_len (da_cons (de_var 2) (da_cons (de_glob (v := .ref _) (by rfl) T.n_SIDES rfl T.w_SIDES) da_nil)))) (blkOk_by (own := [("near", 6)]) (N := ["some", "rest", "cell", "inside", "lacking", "chain", "near"]) (sc := defScope s_why_around) (by decide +kernel)) (by decide) (fun _ _ _ _ _ => (dg_name (i := 6) sc_why_around.nd rfl (by first | exact .inl rfl | exact .inr rfl))) (fun _ _ _ _ _ => (dts_one (dt_cmp (od_eq (hu64 hr)) (de_cmp (od_inG (hu65 hr)) (de_var 6) (de_var 0)) (de_var 1)))) (fun _ _ _ _ _ => (de_var 6)))
  (dss_cons (ds_if (dt_cmp (od_eq (hu64 hr)) (de_var 4) (DN.de (dn_lst da_nil))) (dss_one (ds_ret (de_tup (da_cons de_str da_nil)))) dss_nil)
  (dss_cons (ds_set 5 sc_why_around.nd rfl (by first | exact .inl rfl | exact .inr rfl) (de_potE (dn_call (ok_noted T) (hr.mono (by decide)) (by rfl) T.g_noted T.F_noted.kp T.b_noted (takes_of rfl rfl rfl rfl) fnN_len (da_cons (de_var 3) da_nil)) (ok_flooded T) (hr.mono (by decide)) (by rfl) T.g_flooded T.F_flooded.kp T.b_flooded (takes_of rfl rfl rfl rfl) fnPd_len (da_cons (de_ix id_ix (de_var 3) de_int) (da_cons (de_glob (v := .ref _) (by rfl) T.n_AROUND rfl T.w_AROUND) da_nil))))
  (dss_cons (ds_if (dt_cmp od_lt (de_callB (cd_len) (by rfl) T.z_len (by decide +kernel) (da_cons (de_var 5) da_nil)) (de_callB (cd_len) (by rfl) T.z_len (by decide +kernel) (da_cons (de_var 3) da_nil))) (dss_one (ds_ret (de_tup (da_cons de_str (da_cons (de_callTy (cd_tuple) (by rfl) T.z_tuple (by decide +kernel) (da_cons (de_callB (CallN.cd (cn_sorted (hu70 hr))) (by rfl) T.z_sorted (by decide +kernel) (da_cons (de_var 5) da_nil)) da_nil)) da_nil))))) dss_nil)
  (dss_one (ds_ret (de_tup (da_cons de_str (da_cons (de_var 5) (da_cons (de_ix id_ix (de_var 4) de_int) da_nil))))))))))))
def D_loose_cells : List D → Res D := fnN 3 1 (sSeq (sExpr (eCall D_look_finite (aCons (eVar 0) aNil)))
  (sSeq (qSet 1 (xM (eCall D_noted (aCons (e2 ixD (eVar 0) (eC (.int 0))) aNil))))
  (qRet (xM (eLc (fun σ => ((e2 ixD (eVar 0) (eC (.int 0))) σ).bind seqOf) (gN 2) [2] (tB (e2 eqD (e2 ixD (eCall D_why_around (aCons (eVar 1) (aCons (eC (.bool false)) (aCons (eVar 2) aNil)))) (eC (.int 0))) (eC (.str "loose")))) (eVar 2))))))
theorem ok_loose_cells (T : Txt K mg) : FnN P w K mg base 3 T.a_loose_cells T.d_loose_cells ["shape"] D_loose_cells := fn_mkN T.F_loose_cells sc_loose_cells fun cdv A outer s H Ex hr =>
  (dqs_cons (dq_expr (de_call (ok_look_finite T) (hr.mono (by decide)) (by rfl) T.g_look_finite T.F_look_finite.kp T.b_look_finite (takes_of rfl rfl rfl rfl) fnD_len (da_cons (de_var 0) da_nil)))
  (dqs_cons (dq_set 1 sc_loose_cells.nd rfl (by first | exact .inl rfl | exact .inr rfl) (xe_mask (de_call ((ok_noted T).dat) (hr.mono (by decide)) (by rfl) T.g_noted T.F_noted.kp T.b_noted (takes_of rfl rfl rfl rfl) fnN_len (da_cons (de_ix id_ix (de_var 0) de_int) da_nil))))
  (dqs_one (dq_retN (dn_lc (own := [("cell", 2)]) (pt := (gN 2)) (ix := [2]) rfl sc_loose_cells.nd (di_seq (de_ix id_ix (de_var 0) de_int)) (blkOk_by (own := [("cell", 2)]) (N := ["shape", "some", "cell"]) (sc := defScope s_loose_cells) (by decide +kernel)) (by decide) (fun _ _ _ _ _ => (dg_name (i := 2) sc_loose_cells.nd rfl (by first | exact .inl rfl | exact .inr rfl))) (fun _ _ _ _ _ => (dts_one (dt_cmp (od_eq (hu64 hr)) (de_ix id_ix (de_call (ok_why_around T) (hr.mono (by decide)) (by rfl) T.g_why_around T.F_why_around.kp T.b_why_around takes0 fnD_len (da_cons (de_var 1) (da_cons de_bl (da_cons (de_var 2) da_nil)))) de_int) de_str))) (fun _ _ _ _ _ => (de_var 2)))))))
def D_law_cell : List D → Res D := fnD 2 2 (sSeq (sIf (tB (e2 ltD (eVar 1) (eCall lenD (aCons (eVar 0) aNil)))) (sRet (e2 ixD (eVar 0) (eVar 1))) sNil)
  (sRet (eC (.int 0))))
theorem ok_law_cell (T : Txt K mg) : FnD P w K mg base 1 T.a_law_cell T.d_law_cell ["script", "k"] D_law_cell := fn_mk T.F_law_cell sc_law_cell fun cdv A outer s H Ex hr =>
  (dss_cons (ds_if (dt_cmp od_lt (de_var 1) (de_callB (cd_len) (by rfl) T.z_len (by decide +kernel) (da_cons (de_var 0) da_nil))) (dss_one (ds_ret (de_ix id_ix (de_var 0) (de_var 1)))) dss_nil)
  (dss_one (ds_ret de_int)))
def C_law_deal_1 : SF := (sRet (e2 subD (eVar 0) (e2 powD (eC (.int 10)) (eC (.int 18)))))
def I_law_deal_1 : DS → Res (List D) := (fun σ => ((aCons (eC (.int 24)) aNil) σ).bind rng1)
def B_law_deal_1 : SF := (sSeq (sSet 2 (e2 modD (e2 mulD (e2 addD (e2 addD (e2 addD (eVar 2) (e2 mulD (e2 mulD (eC (.int 15)) (eVar 4)) (eVar 4))) (e2 mulD (eC (.int 31)) (eVar 1))) (eC (.int 11))) (eC (.int 48271))) (eC (.int 2147483647))))
  (sSeq (sSet 2 (e2 modD (e2 mulD (eVar 2) (eVar 2)) (eC (.int 2147483629))))
  (sSet 3 (e2 addD (e2 mulD (eVar 3) (eC (.int 998244353))) (e2 fdivD (e2 modD (e2 mulD (eVar 2) (eC (.int 69621))) (eC (.int 2147483587))) (eC (.int 7)))))))
def D_law_deal : List D → Res D := fnD 5 2 (sSeq (sIf (tB (e2 geD (eVar 0) (e2 powD (eC (.int 10)) (eC (.int 18))))) C_law_deal_1 sNil)
  (sSeq (sSet 2 (e2 modD (eVar 0) (eC (.int 2147483629))))
  (sSeq (sSet 3 (eC (.int 0)))
  (sSeq (sFor I_law_deal_1 (gN 4)
  B_law_deal_1)
  (sRet (eVar 3))))))
theorem ok_law_deal (T : Txt K mg) : FnD P w K mg base 1 T.a_law_deal T.d_law_deal ["cell", "salt"] D_law_deal := fn_mk T.F_law_deal sc_law_deal fun cdv A outer s H Ex hr =>
  (dss_cons (ds_if (dt_cmp od_ge (de_var 0) (de_op od_pow de_int de_int)) (dss_one (ds_ret (de_op od_sub (de_var 0) (de_op od_pow de_int de_int)))) dss_nil)
  (dss_cons (ds_set 2 sc_law_deal.nd rfl (by first | exact .inl rfl | exact .inr rfl) (de_op od_mod (de_var 0) de_int))
  (dss_cons (ds_set 3 sc_law_deal.nd rfl (by first | exact .inl rfl | exact .inr rfl) de_int)
  (dss_cons (ds_for (passes_of rfl) rfl ((DR.di (dr_range1 (by rfl) T.z_range (da_cons de_int da_nil)))) (dg_name (i := 4) sc_law_deal.nd rfl (by first | exact .inl rfl | exact .inr rfl))
  (dss_cons (ds_set 2 sc_law_deal.nd rfl (by first | exact .inl rfl | exact .inr rfl) (de_op od_mod (de_op od_mul (de_op od_add (de_op od_add (de_op od_add (de_var 2) (de_op od_mul (de_op od_mul de_int (de_var 4)) (de_var 4))) (de_op od_mul de_int (de_var 1))) de_int) de_int) de_int))
  (dss_cons (ds_set 2 sc_law_deal.nd rfl (by first | exact .inl rfl | exact .inr rfl) (de_op od_mod (de_op od_mul (de_var 2) (de_var 2)) de_int))
  (dss_one (ds_set 3 sc_law_deal.nd rfl (by first | exact .inl rfl | exact .inr rfl) (de_op od_add (de_op od_mul (de_var 3) de_int) (de_op od_fdiv (de_op od_mod (de_op od_mul (de_var 2) de_int) de_int) de_int)))))))
  (dss_one (ds_ret (de_var 3)))))))
def D_law_has : List D → Res D := fnD 2 2 (sRet (e2 neD (e2 inG (eVar 1) (e2 ixD (eVar 0) (eC (.int 0)))) (e2 ixD (eVar 0) (eC (.int 1)))))
theorem ok_law_has (T : Txt K mg) : FnD P w K mg base 1 T.a_law_has T.d_law_has ["shape", "cell"] D_law_has := fn_mk T.F_law_has sc_law_has fun cdv A outer s H Ex hr =>
  (dss_one (ds_ret (de_cmp (od_ne (hu64 hr)) (de_cmp (od_inG (hu65 hr)) (de_var 1) (de_ix id_ix (de_var 0) de_int)) (de_ix id_ix (de_var 0) de_int))))
def D_why_loose : List D → Res D := fnD 3 2 (sSeq (sSet 2 (eCall D_noted (aCons (e2 ixD (eVar 0) (eC (.int 0))) aNil)))
  (sSeq (sIf (tB (e2 eqD (e2 inG (eVar 1) (eVar 2)) (e2 ixD (eVar 0) (eC (.int 1))))) sStuck sNil)
  (sRet (eCall D_why_around (aCons (eVar 2) (aCons (e2 ixD (eVar 0) (eC (.int 1))) (aCons (eVar 1) aNil)))))))
theorem ok_why_loose (T : Txt K mg) : FnD P w K mg base 3 T.a_why_loose T.d_why_loose ["shape", "cell"] D_why_loose := fn_mk T.F_why_loose sc_why_loose fun cdv A outer s H Ex hr =>
  (dss_cons (ds_set 2 sc_why_loose.nd rfl (by first | exact .inl rfl | exact .inr rfl) (de_call ((ok_noted T).dat) (hr.mono (by decide)) (by rfl) T.g_noted T.F_noted.kp T.b_noted (takes_of rfl rfl rfl rfl) fnN_len (da_cons (de_ix id_ix (de_var 0) de_int) da_nil)))
  (dss_cons (ds_if (dt_cmp (od_eq (hu64 hr)) (de_cmp (od_inG (hu65 hr)) (de_var 1) (de_var 2)) (de_ix id_ix (de_var 0) de_int)) (dss_one ds_never) dss_nil)
  (dss_one (ds_ret (de_call (ok_why_around T) (hr.mono (by decide)) (by rfl) T.g_why_around T.F_why_around.kp T.b_why_around (takes_of rfl rfl rfl rfl) fnD_len (da_cons (de_var 2) (da_cons (de_ix id_ix (de_var 0) de_int) (da_cons (de_var 1) da_nil))))))))
def D_is_loose : List D → Res D := fnD 2 2 (sRet (e2 eqD (e2 ixD (eCall D_why_loose (aCons (eVar 0) (aCons (eVar 1) aNil))) (eC (.int 0))) (eC (.str "loose"))))
theorem ok_is_loose (T : Txt K mg) : FnD P w K mg base 4 T.a_is_loose T.d_is_loose ["shape", "cell"] D_is_loose := fn_mk T.F_is_loose sc_is_loose fun cdv A outer s H Ex hr =>
  (dss_one (ds_ret (de_cmp (od_eq (hu64 hr)) (de_ix id_ix (de_call (ok_why_loose T) (hr.mono (by decide)) (by rfl) T.g_why_loose T.F_why_loose.kp T.b_why_loose (takes_of rfl rfl rfl rfl) fnD_len (da_cons (de_var 0) (da_cons (de_var 1) da_nil))) de_int) de_str)))
def D_may_come : List D → Res D := fnD 3 2 (sSeq (sSet 2 (eCall D_noted (aCons (e2 ixD (eVar 0) (eC (.int 0))) aNil)))
  (sSeq (sIf (tB (e2 neD (e2 inG (eVar 1) (eVar 2)) (e2 ixD (eVar 0) (eC (.int 1))))) sStuck sNil)
  (sRet (e2 eqD (e2 ixD (eCall D_why_around (aCons (eVar 2) (aCons (e2 ixD (eVar 0) (eC (.int 1))) (aCons (eVar 1) aNil)))) (eC (.int 0))) (eC (.str "loose"))))))
theorem ok_may_come (T : Txt K mg) : FnD P w K mg base 3 T.a_may_come T.d_may_come ["shape", "cell"] D_may_come := fn_mk T.F_may_come sc_may_come fun cdv A outer s H Ex hr =>
  (dss_cons (ds_set 2 sc_may_come.nd rfl (by first | exact .inl rfl | exact .inr rfl) (de_call ((ok_noted T).dat) (hr.mono (by decide)) (by rfl) T.g_noted T.F_noted.kp T.b_noted (takes_of rfl rfl rfl rfl) fnN_len (da_cons (de_ix id_ix (de_var 0) de_int) da_nil)))
  (dss_cons (ds_if (dt_cmp (od_ne (hu64 hr)) (de_cmp (od_inG (hu65 hr)) (de_var 1) (de_var 2)) (de_ix id_ix (de_var 0) de_int)) (dss_one ds_never) dss_nil)
  (dss_one (ds_ret (de_cmp (od_eq (hu64 hr)) (de_ix id_ix (de_call (ok_why_around T) (hr.mono (by decide)) (by rfl) T.g_why_around T.F_why_around.kp T.b_why_around (takes_of rfl rfl rfl rfl) fnD_len (da_cons (de_var 2) (da_cons (de_ix id_ix (de_var 0) de_int) (da_cons (de_var 1) da_nil)))) de_int) de_str)))))
def C_law_around_1 : SF := (sMut 2 appendM (aCons (eTup (aCons (eVar 3) (aCons (eVar 4) aNil))) aNil))
def I_law_around_1 : DS → Res (List D) := (fun σ => ((aCons (e2 subD (e2 ixD (eVar 1) (eC (.int 1))) (eC (.int 1))) (aCons (e2 addD (e2 ixD (eVar 1) (eC (.int 1))) (eC (.int 2))) aNil)) σ).bind rng2)
def B_law_around_1 : SF := (sIf (E3.tAnd (tB (e2 neD (eTup (aCons (eVar 3) (aCons (eVar 4) aNil))) (eVar 1))) (E3.tB (eCall D_law_has (aCons (eVar 0) (aCons (eTup (aCons (eVar 3) (aCons (eVar 4) aNil))) aNil))))) C_law_around_1 sNil)
def I_law_around_2 : DS → Res (List D) := (fun σ => ((aCons (e2 subD (e2 ixD (eVar 1) (eC (.int 0))) (eC (.int 1))) (aCons (e2 addD (e2 ixD (eVar 1) (eC (.int 0))) (eC (.int 2))) aNil)) σ).bind rng2)
def B_law_around_2 : SF := (sFor I_law_around_1 (gN 4)
  B_law_around_1)
def D_law_around : List D → Res D := fnD 5 2 (sSeq (sNew 2 (eLst aNil))
  (sSeq (sFor I_law_around_2 (gN 3)
  B_law_around_2)
  (sFreeze 2 (sRet (eVar 2)))))
theorem ok_law_around (T : Txt K mg) : FnD P w K mg base 2 T.a_law_around T.d_law_around ["shape", "cell"] D_law_around := fn_mk T.F_law_around sc_law_around fun cdv A outer s H Ex hr =>
  (dss_cons (ds_new 2 sc_law_around.nd rfl (by first | exact .inl rfl | exact .inr rfl) (dn_lst da_nil))
  (dss_cons (ds_for (passes_of rfl) rfl ((DR.di (dr_range2 (by rfl) T.z_range (da_cons (de_op od_sub (de_ix id_ix (de_var 1) de_int) de_int) (da_cons (de_op od_add (de_ix id_ix (de_var 1) de_int) de_int) da_nil))))) (dg_name (i := 3) sc_law_around.nd rfl (by first | exact .inl rfl | exact .inr rfl))
  (dss_one (ds_for (passes_of rfl) rfl ((DR.di (dr_range2 (by rfl) T.z_range (da_cons (de_op od_sub (de_ix id_ix (de_var 1) de_int) de_int) (da_cons (de_op od_add (de_ix id_ix (de_var 1) de_int) de_int) da_nil))))) (dg_name (i := 4) sc_law_around.nd rfl (by first | exact .inl rfl | exact .inr rfl))
  (dss_one (ds_if (DW.pt (dw_and (dt_cmp (od_ne (hu64 hr)) (de_tup (da_cons (de_var 3) (da_cons (de_var 4) da_nil))) (de_var 1)) (dw_and1 (dt_val (de_call (ok_law_has T) (hr.mono (by decide)) (by rfl) T.g_law_has T.F_law_has.kp T.b_law_has (takes_of rfl rfl rfl rfl) fnD_len (da_cons (de_var 0) (da_cons (de_tup (da_cons (de_var 3) (da_cons (de_var 4) da_nil))) da_nil))))))) (dss_one (ds_mut 2 (isv 2) md_append (fun hm ho ha => pe_bm PySem.F.plainAttrs_list PySem.F.slot_list_append PySem.F.type_list_append hm ho ha) (da_cons (de_tup (da_cons (de_var 3) (da_cons (de_var 4) da_nil))) da_nil))) dss_nil)))))
  (dss_freeze 2 (dss_one (ds_ret (de_var 2))))))
def I_law_fallen_1 : DS → Res (List D) := (fun σ => ((eVar 0) σ).bind seqOf)
def C_law_fallen_1 : SF := (sSeq (sPopD 2 (aCons (eVar 9) aNil))
  (sMut 5 appendM (aCons (eVar 9) aNil)))
def I_law_fallen_2 : DS → Res (List D) := (fun σ => ((eTup (aCons (e1 negD (eC (.int 1))) (aCons (eC (.int 0)) (aCons (eC (.int 1)) aNil)))) σ).bind seqOf)
def B_law_fallen_1 : SF := (sSeq (sSetV 9 (eTup (aCons (e2 addD (e2 ixD (e2 ixD (eVar 5) (eVar 6)) (eC (.int 0))) (eVar 7)) (aCons (e2 addD (e2 ixD (e2 ixD (eVar 5) (eVar 6)) (eC (.int 1))) (eVar 8)) aNil))))
  (sIf (E3.tAnd (tB (e2 inG (eVar 9) (eVar 2))) (E3.tNot (E3.tAnd (E3.tB (eVar 1)) (tB (e2 neD (e2 mulD (eVar 7) (eVar 8)) (eC (.int 0))))))) C_law_fallen_1 sNil))
def I_law_fallen_3 : DS → Res (List D) := (fun σ => ((eTup (aCons (e1 negD (eC (.int 1))) (aCons (eC (.int 0)) (aCons (eC (.int 1)) aNil)))) σ).bind seqOf)
def B_law_fallen_2 : SF := (sFor I_law_fallen_2 (gN 8)
  B_law_fallen_1)
def B_law_fallen_3 : SF := (sSeq (sFor I_law_fallen_3 (gN 7)
  B_law_fallen_2)
  (sSet 6 (e2 addD (eVar 6) (eC (.int 1)))))
def C_law_fallen_2 : SF := (sSeq (sNew 5 (eLst (aCons (eVar 3) aNil)))
  (sSeq (sPopD 2 (aCons (eVar 3) aNil))
  (sSeq (sSet 6 (eC (.int 0)))
  (sSeq (sWhile (tB (e2 ltD (eVar 6) (eCall lenD (aCons (eVar 5) aNil))))
  B_law_fallen_3)
  (sFreeze 5 (sMut 4 appendM (aCons (eCall tupleD (aCons (eCall sortedD (aCons (eVar 5) aNil)) aNil)) aNil)))))))
def I_law_fallen_4 : DS → Res (List D) := (fun σ => ((eCall sortedD (aCons (eVar 0) aNil)) σ).bind seqOf)
def T_law_fallen_1 : SF := (sSeq (sNew 4 (eLst aNil))
  (sSeq (sFor I_law_fallen_4 (gN 3)
  (sIf (tB (e2 inG (eVar 3) (eVar 2))) C_law_fallen_2 sNil))
  (sFreeze 2 (sFreeze 4 (sRet (eVar 4))))))
def D_law_fallen : List D → Res D := fnD 10 2 (sSeq (sNew 2 (eC (.dict [])))
  (sSeq (sFor I_law_fallen_1 (gN 3)
  (sPut 2 (eVar 3) (eC (.bool true))))
  T_law_fallen_1))
theorem ok_law_fallen (T : Txt K mg) : FnD P w K mg base 1 T.a_law_fallen T.d_law_fallen ["cells", "sides"] D_law_fallen := fn_mk T.F_law_fallen sc_law_fallen fun cdv A outer s H Ex hr =>
  (dss_cons (ds_new 2 sc_law_fallen.nd rfl (by first | exact .inl rfl | exact .inr rfl) (dn_dict))
  (dss_cons (ds_for (passes_of rfl) rfl ((di_seq (de_var 0))) (dg_name (i := 3) sc_law_fallen.nd rfl (by first | exact .inl rfl | exact .inr rfl))
  (dss_one (ds_put 2 (hu65 hr) (isv 2) (de_var 3) de_bl)))
  (dss_cons (ds_new 4 sc_law_fallen.nd rfl (by first | exact .inl rfl | exact .inr rfl) (dn_lst da_nil))
  (dss_cons (ds_for (passes_of rfl) rfl ((di_seq (de_callB (CallN.cd (cn_sorted (hu70 hr))) (by rfl) T.z_sorted (by decide +kernel) (da_cons (de_var 0) da_nil)))) (dg_name (i := 3) sc_law_fallen.nd rfl (by first | exact .inl rfl | exact .inr rfl))
  (dss_one (ds_if (dt_cmp (od_inG (hu65 hr)) (de_var 3) (de_var 2)) (dss_cons (ds_new 5 sc_law_fallen.nd rfl (by first | exact .inl rfl | exact .inr rfl) (dn_lst (da_cons (de_var 3) da_nil)))
  (dss_cons (ds_popD 2 (hu65 hr) (isv 2) (da_cons (de_var 3) da_nil) rfl (fun hm ho ha => pe_bm PySem.F.plainAttrs_dict PySem.F.slot_dict_pop PySem.F.type_dict_pop hm ho ha))
  (dss_cons (ds_set 6 sc_law_fallen.nd rfl (by first | exact .inl rfl | exact .inr rfl) de_int)
  (dss_cons (ds_while (passes_of rfl) (dt_cmp od_lt (de_var 6) (de_callB (cd_len) (by rfl) T.z_len (by decide +kernel) (da_cons (de_var 5) da_nil)))
  (dss_cons (ds_for (passes_of rfl) rfl ((di_seq (de_tup (da_cons (de_un ud_neg de_int) (da_cons de_int (da_cons de_int da_nil)))))) (dg_name (i := 7) sc_law_fallen.nd rfl (by first | exact .inl rfl | exact .inr rfl))
  (dss_one (ds_for (passes_of rfl) rfl ((di_seq (de_tup (da_cons (de_un ud_neg de_int) (da_cons de_int (da_cons de_int da_nil)))))) (dg_name (i := 8) sc_law_fallen.nd rfl (by first | exact .inl rfl | exact .inr rfl))
  (dss_cons (ds_setV 9 sc_law_fallen.nd rfl (by first | exact .inl rfl | exact .inr rfl) (de_tup (da_cons (de_op od_add (de_ix id_ix (de_ix id_ix (de_var 5) (de_var 6)) de_int) (de_var 7)) (da_cons (de_op od_add (de_ix id_ix (de_ix id_ix (de_var 5) (de_var 6)) de_int) (de_var 8)) da_nil))))
  (dss_one (ds_if (DW.pt (dw_and (dt_cmp (od_inG (hu65 hr)) (de_var 9) (de_var 2)) (dw_and1 (dt_not (DW.pt (dw_and (dt_val (de_var 1)) (dw_and1 (dt_cmp (od_ne (hu64 hr)) (de_op od_mul (de_var 7) (de_var 8)) de_int)))))))) (dss_cons (ds_popD 2 (hu65 hr) (isv 2) (da_cons (de_var 9) da_nil) rfl (fun hm ho ha => pe_bm PySem.F.plainAttrs_dict PySem.F.slot_dict_pop PySem.F.type_dict_pop hm ho ha))
  (dss_one (ds_mut 5 (isv 5) md_append (fun hm ho ha => pe_bm PySem.F.plainAttrs_list PySem.F.slot_list_append PySem.F.type_list_append hm ho ha) (da_cons (de_var 9) da_nil)))) dss_nil))))))
  (dss_one (ds_set 6 sc_law_fallen.nd rfl (by first | exact .inl rfl | exact .inr rfl) (de_op od_add (de_var 6) de_int)))))
  (dss_freeze 5 (dss_one (ds_mut 4 (isv 4) md_append (fun hm ho ha => pe_bm PySem.F.plainAttrs_list PySem.F.slot_list_append PySem.F.type_list_append hm ho ha) (da_cons (de_callTy (cd_tuple) (by rfl) T.z_tuple (by decide +kernel) (da_cons (de_callB (CallN.cd (cn_sorted (hu70 hr))) (by rfl) T.z_sorted (by decide +kernel) (da_cons (de_var 5) da_nil)) da_nil)) da_nil)))))))) dss_nil)))
  (dss_freeze 2 (dss_freeze 4 (dss_one (ds_ret (de_var 4)))))))))
def D_law_word_due : List D → Res D := fnD 4 2 (sSeq (sSet 2 (eCall D_law_around (aCons (eVar 0) (aCons (eVar 1) aNil))))
  (sSeq (sIf (tB (e2 eqD (eVar 2) (eLst aNil))) (sRet (eC (.str "alone"))) sNil)
  (sSeq (sIf (tB (e2 eqD (eCall lenD (aCons (eLc (fun σ => ((eVar 2) σ).bind seqOf) (gN 3) [3] (E3.tOr (tB (e2 eqD (e2 ixD (eVar 3) (eC (.int 0))) (e2 ixD (eVar 1) (eC (.int 0))))) (tB (e2 eqD (e2 ixD (eVar 3) (eC (.int 1))) (e2 ixD (eVar 1) (eC (.int 1)))))) (eVar 3)) aNil)) (eC (.int 4)))) (sRet (eC (.str "inner"))) sNil)
  (sSeq (sIf (tB (e2 gtD (eCall lenD (aCons (eCall D_law_fallen (aCons (eVar 2) (aCons (eC (.bool false)) aNil))) aNil)) (eC (.int 1)))) (sRet (eC (.str "bridge"))) sNil)
  (sRet (eC (.str "loose")))))))
theorem ok_law_word_due (T : Txt K mg) : FnD P w K mg base 3 T.a_law_word_due T.d_law_word_due ["shape", "cell"] D_law_word_due := fn_mk T.F_law_word_due sc_law_word_due fun cdv A outer s H Ex hr =>
  (dss_cons (ds_set 2 sc_law_word_due.nd rfl (by first | exact .inl rfl | exact .inr rfl) (de_call (ok_law_around T) (hr.mono (by decide)) (by rfl) T.g_law_around T.F_law_around.kp T.b_law_around (takes_of rfl rfl rfl rfl) fnD_len (da_cons (de_var 0) (da_cons (de_var 1) da_nil))))
  (dss_cons (ds_if (dt_cmp (od_eq (hu64 hr)) (de_var 2) (DN.de (dn_lst da_nil))) (dss_one (ds_ret de_str)) dss_nil)
  (dss_cons (ds_if (dt_cmp (od_eq (hu64 hr)) (de_callB (cd_len) (by rfl) T.z_len (by decide +kernel) (da_cons (DN.de (dn_lc (own := [("one", 3)]) (pt := (gN 3)) (ix := [3]) rfl sc_law_word_due.nd (di_seq (de_var 2)) (blkOk_by (own := [("one", 3)]) (N := ["shape", "cell", "near", "one"]) (sc := defScope s_law_word_due) (by decide +kernel)) (by decide) (fun _ _ _ _ _ => (dg_name (i := 3) sc_law_word_due.nd rfl (by first | exact .inl rfl | exact .inr rfl))) (fun _ _ _ _ _ => (dts_one (DW.pt (dw_or (dt_cmp (od_eq (hu64 hr)) (de_ix id_ix (de_var 3) de_int) (de_ix id_ix (de_var 1) de_int)) (dw_or1 (dt_cmp (od_eq (hu64 hr)) (de_ix id_ix (de_var 3) de_int) (de_ix id_ix (de_var 1) de_int))))))) (fun _ _ _ _ _ => (de_var 3)))) da_nil)) de_int) (dss_one (ds_ret de_str)) dss_nil)
  (dss_cons (ds_if (dt_cmp od_gt (de_callB (cd_len) (by rfl) T.z_len (by decide +kernel) (da_cons (de_call (ok_law_fallen T) (hr.mono (by decide)) (by rfl) T.g_law_fallen T.F_law_fallen.kp T.b_law_fallen (takes_of rfl rfl rfl rfl) fnD_len (da_cons (de_var 2) (da_cons de_bl da_nil))) da_nil)) de_int) (dss_one (ds_ret de_str)) dss_nil)
  (dss_one (ds_ret de_str))))))
def C_law_asked_1 : SF := (sSet 2 (eCall D_is_loose (aCons (eVar 0) (aCons (eVar 1) aNil))))
def C_law_asked_2 : SF := (sSet 2 (eCall D_may_come (aCons (eVar 0) (aCons (eVar 1) aNil))))
def D_law_asked : List D → Res D := fnD 3 2 (sSeq (sIf (E3.tB (eCall D_law_has (aCons (eVar 0) (aCons (eVar 1) aNil)))) C_law_asked_1 C_law_asked_2)
  (sRet (eAnd (e1 (isiD "bool") (eVar 2)) (e2 eqD (eVar 2) (e2 eqD (eCall D_law_word_due (aCons (eVar 0) (aCons (eVar 1) aNil))) (eC (.str "loose")))))))
theorem ok_law_asked (T : Txt K mg) : FnD P w K mg base 5 T.a_law_asked T.d_law_asked ["shape", "there"] D_law_asked := fn_mk T.F_law_asked sc_law_asked fun cdv A outer s H Ex hr =>
  (dss_cons (ds_if (dt_val (de_call (ok_law_has T) (hr.mono (by decide)) (by rfl) T.g_law_has T.F_law_has.kp T.b_law_has (takes_of rfl rfl rfl rfl) fnD_len (da_cons (de_var 0) (da_cons (de_var 1) da_nil)))) (dss_one (ds_set 2 sc_law_asked.nd rfl (by first | exact .inl rfl | exact .inr rfl) (de_call (ok_is_loose T) (hr.mono (by decide)) (by rfl) T.g_is_loose T.F_is_loose.kp T.b_is_loose (takes_of rfl rfl rfl rfl) fnD_len (da_cons (de_var 0) (da_cons (de_var 1) da_nil))))) (dss_one (ds_set 2 sc_law_asked.nd rfl (by first | exact .inl rfl | exact .inr rfl) (de_call (ok_may_come T) (hr.mono (by decide)) (by rfl) T.g_may_come T.F_may_come.kp T.b_may_come (takes_of rfl rfl rfl rfl) fnD_len (da_cons (de_var 0) (da_cons (de_var 1) da_nil))))))
  (dss_one (ds_ret (de_and (de_isi tok_bool T.z_isinstance (by rfl) (de_var 2) (by rfl) T.z_bool (by decide +kernel)) (de_one (de_cmp (od_eq (hu64 hr)) (de_var 2) (de_cmp (od_eq (hu64 hr)) (de_call (ok_law_word_due T) (hr.mono (by decide)) (by rfl) T.g_law_word_due T.F_law_word_due.kp T.b_law_word_due (takes_of rfl rfl rfl rfl) fnD_len (da_cons (de_var 0) (da_cons (de_var 1) da_nil))) de_str)))))))
def I_law_full_1 : DS → Res (List D) := (fun σ => ((aCons (eC (.int 20)) aNil) σ).bind rng1)
def B_law_full_1 : SF := (sPut 2 (eCall D_law_kept (aCons (e2 subD (e2 ixD (eVar 1) (eC (.int 0))) (eVar 3)) (aCons (e2 subD (e2 addD (e2 ixD (eVar 1) (eC (.int 1))) (eVar 4)) (e2 mulD (eC (.int 19)) (eCall intD (aCons (e2 gtD (e2 ixD (eVar 1) (eC (.int 1))) (eC (.int 0))) aNil)))) aNil))) (eC (.bool true)))
def I_law_full_2 : DS → Res (List D) := (fun σ => ((aCons (eC (.int 20)) aNil) σ).bind rng1)
def B_law_full_2 : SF := (sFor I_law_full_1 (gN 4)
  B_law_full_1)
def I_law_full_3 : DS → Res (List D) := (fun σ => ((aCons (eC (.int 3)) aNil) σ).bind rng1)
def B_law_full_3 : SF := (sSeq (sAsg (gT 2 (gsCons (gN 0) (gsCons (gN 7) gsNil))) (eCall divmodD (aCons (eVar 0) (aCons (eC (.int 400)) aNil))))
  (sSeq (sAsg (gT 2 (gsCons (gN 0) (gsCons (gN 8) gsNil))) (eCall divmodD (aCons (eVar 0) (aCons (eC (.int 9)) aNil))))
  (sSeq (sSet 9 (e2 ixD (e2 ixD (eVar 5) (eC (.int 0))) (e2 modD (eVar 7) (eCall lenD (aCons (e2 ixD (eVar 5) (eC (.int 0))) aNil)))))
  (sSeq (sSet 10 (eCall D_law_kept (aCons (e2 subD (e2 addD (e2 ixD (eVar 9) (eC (.int 0))) (e2 fdivD (eVar 8) (eC (.int 3)))) (eC (.int 1))) (aCons (e2 subD (e2 addD (e2 ixD (eVar 9) (eC (.int 1))) (e2 modD (eVar 8) (eC (.int 3)))) (eC (.int 1))) aNil))))
  (sIf (E3.tAnd (tB (e2 notInG (eVar 10) (eVar 2))) (E3.tNot (E3.tB (eCall D_law_asked (aCons (eVar 5) (aCons (eVar 10) aNil)))))) (sRet (eC (.bool false))) sNil)))))
def T_law_full_1 : SF := (sRet (eCall D_law_asked (aCons (eVar 5) (aCons (eCall D_law_kept (aCons (e2 subD (e2 ixD (eVar 1) (eC (.int 0))) (eC (.int 20))) (aCons (e2 ixD (eVar 1) (eC (.int 1))) aNil))) aNil))))
def T_law_full_2 : SF := (sFreeze 2 (sSeq (sSet 5 (eTup (aCons (eCall tupleD (aCons (eCall sortAnyD (aCons (eVar 2) aNil)) aNil)) (aCons (eC (.bool false)) aNil))))
  (sSeq (sFor I_law_full_3 (gN 6)
  B_law_full_3)
  T_law_full_1)))
def D_law_full : List D → Res D := fnD 11 1 (sSeq (sAsg (gT 2 (gsCons (gN 1) (gsCons (gN 0) gsNil))) (eCall D_law_base (aCons (eVar 0) aNil)))
  (sSeq (sNew 2 (eC (.dict [])))
  (sSeq (sFor I_law_full_2 (gN 3)
  B_law_full_2)
  T_law_full_2)))
theorem ok_law_full (T : Txt K mg) : FnD P w K mg base 6 T.a_law_full T.d_law_full ["number"] D_law_full := fn_mk T.F_law_full sc_law_full fun cdv A outer s H Ex hr =>
  (dss_cons (ds_asg (de_call (ok_law_base T) (hr.mono (by decide)) (by rfl) T.g_law_base T.F_law_base.kp T.b_law_base (takes_of rfl rfl rfl rfl) fnD_len (da_cons (de_var 0) da_nil)) (dg_tup rfl (dgs_cons (dg_name (i := 1) sc_law_full.nd rfl (by first | exact .inl rfl | exact .inr rfl)) (dgs_cons (dg_name (i := 0) sc_law_full.nd rfl (by first | exact .inl rfl | exact .inr rfl)) dgs_nil))))
  (dss_cons (ds_new 2 sc_law_full.nd rfl (by first | exact .inl rfl | exact .inr rfl) (dn_dict))
  (dss_cons (ds_for (passes_of rfl) rfl ((DR.di (dr_range1 (by rfl) T.z_range (da_cons de_int da_nil)))) (dg_name (i := 3) sc_law_full.nd rfl (by first | exact .inl rfl | exact .inr rfl))
  (dss_one (ds_for (passes_of rfl) rfl ((DR.di (dr_range1 (by rfl) T.z_range (da_cons de_int da_nil)))) (dg_name (i := 4) sc_law_full.nd rfl (by first | exact .inl rfl | exact .inr rfl))
  (dss_one (ds_put 2 (hu65 hr) (isv 2) (de_call (ok_law_kept T) (hr.mono (by decide)) (by rfl) T.g_law_kept T.F_law_kept.kp T.b_law_kept (takes_of rfl rfl rfl rfl) fnD_len (da_cons (de_op od_sub (de_ix id_ix (de_var 1) de_int) (de_var 3)) (da_cons (de_op od_sub (de_op od_add (de_ix id_ix (de_var 1) de_int) (de_var 4)) (de_op od_mul de_int (de_callTy (cd_int) (by rfl) T.z_int (by decide +kernel) (da_cons (de_cmp od_gt (de_ix id_ix (de_var 1) de_int) de_int) da_nil)))) da_nil))) de_bl)))))
  (dss_freeze 2 (dss_cons (ds_set 5 sc_law_full.nd rfl (by first | exact .inl rfl | exact .inr rfl) (de_tup (da_cons (de_callTy (cd_tuple) (by rfl) T.z_tuple (by decide +kernel) (da_cons (DN.de (dn_callB (cn_sortAny rfl (hu70 hr)) (by rfl) T.z_sorted (by decide +kernel) (da_cons (de_var 2) da_nil))) da_nil)) (da_cons de_bl da_nil))))
  (dss_cons (ds_for (passes_of rfl) rfl ((DR.di (dr_range1 (by rfl) T.z_range (da_cons de_int da_nil)))) (dg_name (i := 6) sc_law_full.nd rfl (by first | exact .inl rfl | exact .inr rfl))
  (dss_cons (ds_asg (de_callB (cd_divmod) (by rfl) T.z_divmod (by decide +kernel) (da_cons (de_var 0) (da_cons de_int da_nil))) (dg_tup rfl (dgs_cons (dg_name (i := 0) sc_law_full.nd rfl (by first | exact .inl rfl | exact .inr rfl)) (dgs_cons (dg_name (i := 7) sc_law_full.nd rfl (by first | exact .inl rfl | exact .inr rfl)) dgs_nil))))
  (dss_cons (ds_asg (de_callB (cd_divmod) (by rfl) T.z_divmod (by decide +kernel) (da_cons (de_var 0) (da_cons de_int da_nil))) (dg_tup rfl (dgs_cons (dg_name (i := 0) sc_law_full.nd rfl (by first | exact .inl rfl | exact .inr rfl)) (dgs_cons (dg_name (i := 8) sc_law_full.nd rfl (by first | exact .inl rfl | exact .inr rfl)) dgs_nil))))
  (dss_cons (ds_set 9 sc_law_full.nd rfl (by first | exact .inl rfl | exact .inr rfl) (de_ix id_ix (de_ix id_ix (de_var 5) de_int) (de_op od_mod (de_var 7) (de_callB (cd_len) (by rfl) T.z_len (by decide +kernel) (da_cons (de_ix id_ix (de_var 5) de_int) da_nil)))))
  (dss_cons (ds_set 10 sc_law_full.nd rfl (by first | exact .inl rfl | exact .inr rfl) (de_call (ok_law_kept T) (hr.mono (by decide)) (by rfl) T.g_law_kept T.F_law_kept.kp T.b_law_kept (takes_of rfl rfl rfl rfl) fnD_len (da_cons (de_op od_sub (de_op od_add (de_ix id_ix (de_var 9) de_int) (de_op od_fdiv (de_var 8) de_int)) de_int) (da_cons (de_op od_sub (de_op od_add (de_ix id_ix (de_var 9) de_int) (de_op od_mod (de_var 8) de_int)) de_int) da_nil))))
  (dss_one (ds_if (DW.pt (dw_and (dt_cmp (od_notInG (hu65 hr)) (de_var 10) (de_var 2)) (dw_and1 (dt_not (dt_val (de_call (ok_law_asked T) (hr.mono (by decide)) (by rfl) T.g_law_asked T.F_law_asked.kp T.b_law_asked (takes_of rfl rfl rfl rfl) fnD_len (da_cons (de_var 5) (da_cons (de_var 10) da_nil)))))))) (dss_one (ds_ret de_bl)) dss_nil)))))))
  (dss_one (ds_ret (de_call (ok_law_asked T) (hr.mono (by decide)) (by rfl) T.g_law_asked T.F_law_asked.kp T.b_law_asked (takes_of rfl rfl rfl rfl) fnD_len (da_cons (de_var 5) (da_cons (de_call (ok_law_kept T) (hr.mono (by decide)) (by rfl) T.g_law_kept T.F_law_kept.kp T.b_law_kept (takes_of rfl rfl rfl rfl) fnD_len (da_cons (de_op od_sub (de_ix id_ix (de_var 1) de_int) de_int) (da_cons (de_ix id_ix (de_var 1) de_int) da_nil))) da_nil)))))))))))
def I_law_1 : DS → Res (List D) := (fun σ => ((eLst (aCons (eVar 5) (aCons (eTup (aCons (e2 ixD (eVar 5) (eC (.int 0))) (aCons (e2 subD (e2 ixD (eVar 5) (eC (.int 1))) (eC (.int 1))) aNil))) (aCons (eTup (aCons (e2 addD (e2 ixD (eVar 5) (eC (.int 0))) (eC (.int 1))) (aCons (e2 addD (e2 ixD (eVar 5) (eC (.int 1))) (eC (.int 1))) aNil))) aNil)))) σ).bind seqOf)
def B_law_1 : SF := (sIf (E3.tNot (E3.tB (eCall D_law_asked (aCons (eVar 4) (aCons (eCall D_law_kept (aCons (e2 ixD (eVar 6) (eC (.int 0))) (aCons (e2 ixD (eVar 6) (eC (.int 1))) aNil))) aNil))))) (sRet (eC (.bool false))) sNil)
def I_law_2 : DS → Res (List D) := (fun σ => ((e2 addD (eVar 2) (eTup (aCons (eTup (aCons (eC (.int 0)) (aCons (eC (.int 0)) aNil))) aNil))) σ).bind seqOf)
def B_law_2 : SF := (sFor I_law_1 (gN 6)
  B_law_1)
def T_law_1 : SF := (sSeq (sSet 7 (eLc (fun σ => ((eVar 2) σ).bind seqOf) (gN 5) [5] (tB (e2 eqD (eCall D_law_word_due (aCons (eTup (aCons (eVar 2) (aCons (eC (.bool false)) aNil))) (aCons (eVar 5) aNil))) (eC (.str "loose")))) (eVar 5)))
  (sSeq (sNew 8 (eCall D_loose_cells (aCons (eTup (aCons (eVar 2) (aCons (eC (.bool false)) aNil))) aNil)))
  (sSeq (sIf (E3.tOr (E3.tNot (E3.tB (e1 (isiD "list") (eVar 8)))) (tB (e2 neD (eVar 8) (eVar 7)))) (sRet (eC (.bool false))) sNil)
  (sSeq (sMut 8 appendM (aCons (eTup (aCons (eC (.int 0)) (aCons (eC (.int 0)) aNil))) aNil))
  (sFreeze 8 (sSeq (sIf (tB (e2 neD (eCall D_loose_cells (aCons (eTup (aCons (eVar 2) (aCons (eC (.bool false)) aNil))) aNil)) (eVar 7))) (sRet (eC (.bool false))) sNil)
  (sSeq (sIf (E3.tAnd (tB (e2 eqD (e2 modD (eVar 3) (eC (.int 8))) (eC (.int 3)))) (E3.tNot (E3.tB (eCall D_law_full (aCons (e2 fdivD (eVar 3) (eC (.int 8))) aNil))))) (sRet (eC (.bool false))) sNil)
  (sIf (E3.tAnd (tB (e2 eqD (e2 modD (eVar 3) (eC (.int 8))) (eC (.int 5)))) (E3.tNot (E3.tB (eCall D_law_asked (aCons (eTup (aCons (eTup aNil) (aCons (eC (.bool true)) aNil))) (aCons (eCall D_law_kept (aCons (e2 modD (e2 fdivD (eVar 3) (eC (.int 8))) (eC (.int 9))) (aCons (e2 modD (e2 fdivD (eVar 3) (eC (.int 72))) (eC (.int 9))) aNil))) aNil)))))) (sRet (eC (.bool false))) sNil))))))))
def I_law_3 : DS → Res (List D) := (fun σ => ((e2 addD (eLst (aCons (eCall D_law_cell (aCons (eVar 0) (aCons (eC (.int 0)) aNil))) aNil)) (eSl (eVar 0) (oSome (eC (.int 1))) (oSome (eC (.int 11))))) σ).bind seqOf)
def B_law_3 : SF := (sSeq (sAsg (gT 2 (gsCons (gN 2) (gsCons (gN 3) gsNil))) (eCall D_law_board (aCons (eCall D_law_deal (aCons (eVar 1) (aCons (eC (.int 1)) aNil))) aNil)))
  (sSeq (sSet 4 (eTup (aCons (eVar 2) (aCons (e2 eqD (e2 modD (eVar 3) (eC (.int 3))) (eC (.int 1))) aNil))))
  (sSeq (sFor I_law_2 (gN 5)
  B_law_2)
  T_law_1)))
def D_law : List D → Res D := fnD 9 1 (sSeq (sFor I_law_3 (gN 1)
  B_law_3)
  (sRet (eC (.bool true))))
theorem ok_law (T : Txt K mg) : FnD P w K mg base 7 T.a_law T.d_law ["script"] D_law := fn_mk T.F_law sc_law fun cdv A outer s H Ex hr =>
  (dss_cons (ds_for (passes_of rfl) rfl ((di_seq (de_op od_add (DN.de (dn_lst (da_cons (de_call (ok_law_cell T) (hr.mono (by decide)) (by rfl) T.g_law_cell T.F_law_cell.kp T.b_law_cell (takes_of rfl rfl rfl rfl) fnD_len (da_cons (de_var 0) (da_cons de_int da_nil))) da_nil))) (de_slice (de_var 0) (do_some de_int) (do_some de_int))))) (dg_name (i := 1) sc_law.nd rfl (by first | exact .inl rfl | exact .inr rfl))
  (dss_cons (ds_asg (de_call (ok_law_board T) (hr.mono (by decide)) (by rfl) T.g_law_board T.F_law_board.kp T.b_law_board (takes_of rfl rfl rfl rfl) fnD_len (da_cons (de_call (ok_law_deal T) (hr.mono (by decide)) (by rfl) T.g_law_deal T.F_law_deal.kp T.b_law_deal (takes_of rfl rfl rfl rfl) fnD_len (da_cons (de_var 1) (da_cons de_int da_nil))) da_nil)) (dg_tup rfl (dgs_cons (dg_name (i := 2) sc_law.nd rfl (by first | exact .inl rfl | exact .inr rfl)) (dgs_cons (dg_name (i := 3) sc_law.nd rfl (by first | exact .inl rfl | exact .inr rfl)) dgs_nil))))
  (dss_cons (ds_set 4 sc_law.nd rfl (by first | exact .inl rfl | exact .inr rfl) (de_tup (da_cons (de_var 2) (da_cons (de_cmp (od_eq (hu64 hr)) (de_op od_mod (de_var 3) de_int) de_int) da_nil))))
  (dss_cons (ds_for (passes_of rfl) rfl ((di_seq (de_op od_add (de_var 2) (de_tup (da_cons (de_tup (da_cons de_int (da_cons de_int da_nil))) da_nil))))) (dg_name (i := 5) sc_law.nd rfl (by first | exact .inl rfl | exact .inr rfl))
  (dss_one (ds_for (passes_of rfl) rfl ((di_seq (DN.de (dn_lst (da_cons (de_var 5) (da_cons (de_tup (da_cons (de_ix id_ix (de_var 5) de_int) (da_cons (de_op od_sub (de_ix id_ix (de_var 5) de_int) de_int) da_nil))) (da_cons (de_tup (da_cons (de_op od_add (de_ix id_ix (de_var 5) de_int) de_int) (da_cons (de_op od_add (de_ix id_ix (de_var 5) de_int) de_int) da_nil))) da_nil))))))) (dg_name (i := 6) sc_law.nd rfl (by first | exact .inl rfl | exact .inr rfl))
  (dss_one (ds_if (dt_not (dt_val (de_call (ok_law_asked T) (hr.mono (by decide)) (by rfl) T.g_law_asked T.F_law_asked.kp T.b_law_asked (takes_of rfl rfl rfl rfl) fnD_len (da_cons (de_var 4) (da_cons (de_call (ok_law_kept T) (hr.mono (by decide)) (by rfl) T.g_law_kept T.F_law_kept.kp T.b_law_kept (takes_of rfl rfl rfl rfl) fnD_len (da_cons (de_ix id_ix (de_var 6) de_int) (da_cons (de_ix id_ix (de_var 6) de_int) da_nil))) da_nil))))) (dss_one (ds_ret de_bl)) dss_nil)))))
  (dss_cons (ds_setLc 7 (own := [("spot", 5)]) (pt := (gN 5)) (ix := [5]) rfl sc_law.nd rfl rfl (sw_true rfl rfl rfl (by decide +kernel)) (di_seq (de_var 2)) (blkOk_by (own := [("spot", 5)]) (N := ["script", "cell", "cells", "number", "shape", "spot", "there", "due", "told"]) (sc := defScope s_law) (by decide +kernel)) (by decide) (fun _ _ _ _ _ => (dg_name (i := 5) sc_law.nd rfl (by first | exact .inl rfl | exact .inr rfl))) (fun _ _ _ _ _ => (dts_one (dt_cmp (od_eq (hu64 hr)) (de_call (ok_law_word_due T) (hr.mono (by decide)) (by rfl) T.g_law_word_due T.F_law_word_due.kp T.b_law_word_due takes0 fnD_len (da_cons (de_tup (da_cons (de_var 2) (da_cons de_bl da_nil))) (da_cons (de_var 5) da_nil))) de_str))) (fun _ _ _ _ _ => (de_var 5)))
  (dss_cons (ds_new 8 sc_law.nd rfl (by first | exact .inl rfl | exact .inr rfl) (dn_call (ok_loose_cells T) (hr.mono (by decide)) (by rfl) T.g_loose_cells T.F_loose_cells.kp T.b_loose_cells (takes_of rfl rfl rfl rfl) fnN_len (da_cons (de_tup (da_cons (de_var 2) (da_cons de_bl da_nil))) da_nil)))
  (dss_cons (ds_if (DW.pt (dw_or (dt_not (dt_val (de_isi tok_list T.z_isinstance (by rfl) (de_var 8) (by rfl) T.z_list (by decide +kernel)))) (dw_or1 (dt_cmp (od_ne (hu64 hr)) (de_var 8) (de_var 7))))) (dss_one (ds_ret de_bl)) dss_nil)
  (dss_cons (ds_mut 8 (isv 8) md_append (fun hm ho ha => pe_bm PySem.F.plainAttrs_list PySem.F.slot_list_append PySem.F.type_list_append hm ho ha) (da_cons (de_tup (da_cons de_int (da_cons de_int da_nil))) da_nil))
  (dss_freeze 8 (dss_cons (ds_if (dt_cmp (od_ne (hu64 hr)) (de_call ((ok_loose_cells T).dat) (hr.mono (by decide)) (by rfl) T.g_loose_cells T.F_loose_cells.kp T.b_loose_cells (takes_of rfl rfl rfl rfl) fnN_len (da_cons (de_tup (da_cons (de_var 2) (da_cons de_bl da_nil))) da_nil)) (de_var 7)) (dss_one (ds_ret de_bl)) dss_nil)
  (dss_cons (ds_if (DW.pt (dw_and (dt_cmp (od_eq (hu64 hr)) (de_op od_mod (de_var 3) de_int) de_int) (dw_and1 (dt_not (dt_val (de_call (ok_law_full T) (hr.mono (by decide)) (by rfl) T.g_law_full T.F_law_full.kp T.b_law_full (takes_of rfl rfl rfl rfl) fnD_len (da_cons (de_op od_fdiv (de_var 3) de_int) da_nil))))))) (dss_one (ds_ret de_bl)) dss_nil)
  (dss_one (ds_if (DW.pt (dw_and (dt_cmp (od_eq (hu64 hr)) (de_op od_mod (de_var 3) de_int) de_int) (dw_and1 (dt_not (dt_val (de_call (ok_law_asked T) (hr.mono (by decide)) (by rfl) T.g_law_asked T.F_law_asked.kp T.b_law_asked (takes_of rfl rfl rfl rfl) fnD_len (da_cons (de_tup (da_cons (de_tup da_nil) (da_cons de_bl da_nil))) (da_cons (de_call (ok_law_kept T) (hr.mono (by decide)) (by rfl) T.g_law_kept T.F_law_kept.kp T.b_law_kept (takes_of rfl rfl rfl rfl) fnD_len (da_cons (de_op od_mod (de_op od_fdiv (de_var 3) de_int) de_int) (da_cons (de_op od_mod (de_op od_fdiv (de_var 3) de_int) de_int) da_nil))) da_nil)))))))) (dss_one (ds_ret de_bl)) dss_nil)))))))))))))
  (dss_one (ds_ret de_bl)))
end
end
end K73

namespace E3
open PySem PySem.Spec PyProof.Rows L2
local macro_rules | `(tactic| walk_at "ev") => `(tactic| simp only [fnD, startF, endF, sSeq, sAsg, sSet, sSetV, sAsgV, sIf, sRet, sNew, sMut, sMutV, sFor, sForR, sFreeze, sNil, optK, thenR_ok, thenR_exc, thenR_stuck,
  view, mask, eVar, eC, e1, e2, eCall, eTup, eLst, eSl, oNone, oSome, eAnd, eOr, eIf, E3.tAnd, E3.tOr, E3.tNot, E3.tB, asB, notD, aNil, aCons, Res.bind_ok, Res.bind_exc, Res.bind_stuck,
  gT, gsCons, gsNil, gN, tupD, lstD, Slot.dat, Slot.shd, List.length_cons, List.length_nil, List.map_cons, List.map_nil, List.replicate, List.append_nil, List.cons_append, List.nil_append, Option.map_some, Option.map_none, Option.bind_some, Option.bind_none,
  List.getElem?_cons_zero, List.getElem?_cons_succ, List.set_cons_zero, List.set_cons_succ, Nat.reduceAdd, Nat.reduceSub, Nat.reduceEqDiff, if_true, if_false, ite_true, ite_false, reduceIte, decide_true, decide_false, reduceCtorEq])
abbrev cell (r c : Int) : D := .tuple [.int r, .int c]
theorem at2_0 (a b : D) : L2.atI [a, b] 0 = some a := rfl
theorem at2_1 (a b : D) : L2.atI [a, b] 1 = some b := rfl
theorem ix_cell0 (a b : D) : ixD (.tuple [a, b]) (.int 0) = .ok a := rfl
theorem ix_cell1 (a b : D) : ixD (.tuple [a, b]) (.int 1) = .ok b := rfl
theorem tup2 (a b : D) : tupD [a, b] = .ok (.tuple [a, b]) := rfl
theorem addI (i j : Int) : addD (.int i) (.int j) = .ok (.int (i + j)) := rfl
theorem subI (i j : Int) : subD (.int i) (.int j) = .ok (.int (i - j)) := rfl
theorem ltI (i j : Int) : ltD (.int i) (.int j) = .ok (.bool (decide (i < j))) := rfl
theorem leI (i j : Int) : leD (.int i) (.int j) = .ok (.bool (decide (i ≤ j))) := rfl
theorem gtI (i j : Int) : gtD (.int i) (.int j) = .ok (.bool (decide (j < i))) := rfl
theorem geI (i j : Int) : geD (.int i) (.int j) = .ok (.bool (decide (j ≤ i))) := rfl
theorem iop_ok {c : Int → Int → Bool} {g : Int → Int → D} {i j : Int} (h : c i j = true) : iop c g (.int i) (.int j) = .ok (g i j) := by
  show (if _ then _ else _) = _
  rw [if_pos h]
theorem powI {i j : Int} (h : decide (0 ≤ j ∧ j ≤ 1000000 ∧ i.natAbs < 2 ^ 64) = true) : powD (.int i) (.int j) = .ok (.int (i ^ j.toNat)) := iop_ok h
theorem mulI {i j : Int} (a b : Nat) (hi : i.natAbs < 2 ^ a) (hj : j.natAbs < 2 ^ b) (h : a + b < 1000000) : mulD (.int i) (.int j) = .ok (.int (i * j)) :=
  iop_ok (decide_eq_true (by
    have lg : ∀ n k : Nat, n < 2 ^ k → n.log2 ≤ k := fun n k h => by
      by_cases z : n = 0
      · subst z; simp
      · exact Nat.le_of_lt ((Nat.log2_lt z).mpr h)
    have := lg _ _ hi
    have := lg _ _ hj
    omega))
theorem modI {i j : Int} (h : 0 < j) : modD (.int i) (.int j) = .ok (.int (i % j)) := iop_ok (decide_eq_true h)
theorem fdivI {i j : Int} (h : 0 < j) (h2 : j.natAbs.log2 < 9000) : fdivD (.int i) (.int j) = .ok (.int (i / j)) := iop_ok (decide_eq_true ⟨h, h2⟩)
theorem divmodI {i j : Int} (h : 0 < j) (h2 : j.natAbs.log2 < 9000) : divmodD [.int i, .int j] = .ok (.tuple [.int (i / j), .int (i % j)]) := by
  show (if _ then _ else _) = _
  rw [if_pos ⟨h, h2⟩]
theorem log2_lt {j : Int} (k : Nat) (h : j.natAbs < 2 ^ k) (hk : k ≤ 9000) (h0 : 0 < j) : j.natAbs.log2 < 9000 := by
  have : j.natAbs ≠ 0 := by omega
  have := (Nat.log2_lt this).mpr h
  omega
def dealB : SF := (sSeq (sSet 3 (e2 modD (e2 addD (e2 addD (e2 mulD (eVar 3) (eC (.int 48271))) (eVar 4)) (eC (.int 1))) (eC (.int 2147483647))))
  (sSeq (sSet 5 (e2 modD (e2 mulD (eVar 3) (eVar 3)) (eC (.int 2147483629))))
  (sSet 2 (e2 addD (e2 mulD (eVar 2) (eC (.int 999983))) (e2 modD (e2 addD (e2 fdivD (eVar 5) (eC (.int 1021))) (eVar 5)) (eC (.int 999983)))))))
def lawDeal : List D → Res D := fnD 6 2 (sSeq (sIf (tB (e2 geD (eVar 0) (e2 powD (eC (.int 10)) (eC (.int 18))))) (sRet (e2 subD (eVar 0) (e2 powD (eC (.int 10)) (eC (.int 18))))) sNil)
  (sSeq (sSet 2 (eC (.int 0)))
  (sSeq (sSet 3 (e2 modD (e2 mulD (e2 addD (e2 modD (eVar 0) (eC (.int 2147483647))) (eC (.int 977))) (eC (.int 69621))) (eC (.int 2147483647))))
  (sSeq (sFor (fun σ => ((aCons (eVar 1) aNil) σ).bind rng1) (gN 4) dealB)
  (sRet (eVar 2))))))
theorem deal_turn (c m k number one : Int) (x4 x5 : Option Slot) (b : Nat) (h0 : 0 ≤ number) (hb : number < 2 ^ b) (ho : 0 ≤ one ∧ one < 2147483647) (hl : b + 20 < 999990) :
    ∃ number' one' : Int, ∃ x5' : Option Slot, 0 ≤ number' ∧ number' < 2 ^ (b + 20) ∧ (0 ≤ one' ∧ one' < 2147483647) ∧
      dealB [some (.sh (.int c)), some (.sh (.int m)), some (.sh (.int number)), some (.sh (.int one)), some (.sh (.int k)), x5]
      = .ok .nx [some (.sh (.int c)), some (.sh (.int m)), some (.sh (.int number')), some (.sh (.int one')), some (.sh (.int k)), x5'] := by
  unfold dealB
  walk_at "ev"
  rw [mulI 32 20 (by omega) (by decide) (by decide)]
  walk_at "ev"
  simp only [addI, Res.bind_ok]
  rw [modI (by decide)]
  walk_at "ev"
  have hm : 0 ≤ (one * 48271 + k + 1) % 2147483647 ∧ (one * 48271 + k + 1) % 2147483647 < 2147483647 := ⟨Int.emod_nonneg _ (by decide), Int.emod_lt_of_pos _ (by decide)⟩
  generalize (one * 48271 + k + 1) % 2147483647 = o at hm ⊢
  rw [mulI 32 32 (by omega) (by omega) (by decide)]
  walk_at "ev"
  rw [modI (by decide)]
  walk_at "ev"
  have hm2 : 0 ≤ o * o % 2147483629 ∧ o * o % 2147483629 < 2147483629 := ⟨Int.emod_nonneg _ (by decide), Int.emod_lt_of_pos _ (by decide)⟩
  generalize o * o % 2147483629 = t at hm2 ⊢
  rw [mulI b 20 (by have : ((number.natAbs : Nat) : Int) = number := by omega
                    have h2 : ((number.natAbs : Nat) : Int) < ((2 ^ b : Nat) : Int) := by rw [this]; simpa using hb
                    exact_mod_cast h2) (by decide) (by omega)]
  walk_at "ev"
  rw [fdivI (by decide) (by decide +kernel)]
  walk_at "ev"
  simp only [addI, Res.bind_ok]
  rw [modI (by decide)]
  walk_at "ev"
  simp only [addI, Res.bind_ok]
  have hm3 : 0 ≤ (t / 1021 + t) % 999983 ∧ (t / 1021 + t) % 999983 < 999983 := ⟨Int.emod_nonneg _ (by decide), Int.emod_lt_of_pos _ (by decide)⟩
  generalize (t / 1021 + t) % 999983 = u at hm3 ⊢
  walk_at "ev"
  refine ⟨_, _, _, ?_, ?_, hm, rfl⟩
  · omega
  · have : (2 : Int) ^ (b + 20) = 2 ^ b * 1048576 := by rw [Int.pow_add]; rfl
    omega
theorem deal_loop (c m : Int) : ∀ (ks : List Int) (number one : Int) (x4 x5 : Option Slot) (b : Nat), 0 ≤ number → number < 2 ^ b → (0 ≤ one ∧ one < 2147483647) → b + 20 * ks.length < 999990 →
    ∃ number' one' : Int, ∃ x4' x5' : Option Slot, 0 ≤ number' ∧ number' < 2 ^ (b + 20 * ks.length) ∧
      forS (gN 4) dealB (ks.map .int) [some (.sh (.int c)), some (.sh (.int m)), some (.sh (.int number)), some (.sh (.int one)), x4, x5]
      = .ok .nx [some (.sh (.int c)), some (.sh (.int m)), some (.sh (.int number')), some (.sh (.int one')), x4', x5']
  | [], number, one, x4, x5, b, h0, hb, ho, hl => ⟨number, one, x4, x5, h0, hb, rfl⟩
  | k :: ks, number, one, x4, x5, b, h0, hb, ho, hl => by
    rw [List.length_cons] at hl
    obtain ⟨n1, o1, y5, g0, gb, go, e⟩ := deal_turn c m k number one x4 x5 b h0 hb ho (by omega)
    obtain ⟨n2, o2, z4, z5, k0, kb, f⟩ := deal_loop c m ks n1 o1 (some (.sh (.int k))) y5 (b + 20) g0 gb go (by omega)
    refine ⟨n2, o2, z4, z5, k0, ?_, ?_⟩
    · rw [List.length_cons]
      have : b + 20 * (ks.length + 1) = b + 20 + 20 * ks.length := by omega
      rw [this]; exact kb
    · rw [List.map_cons]
      unfold forS
      show (match dealB [some (.sh (.int c)), some (.sh (.int m)), some (.sh (.int number)), some (.sh (.int one)), some (.sh (.int k)), x5] with
        | .ok .nx σ2 => forS (gN 4) dealB (ks.map .int) σ2
        | .ok .ct σ2 => forS (gN 4) dealB (ks.map .int) σ2
        | .ok .bk σ2 => .ok .nx σ2
        | .ok (.rt v) σ2 => .ok (.rt v) σ2
        | .exc x σ2 => .exc x σ2
        | .stuck => .stuck) = _
      rw [e]
      exact f
theorem rangeD_map (n : Int) : rangeD 0 n = ((List.range n.toNat).map fun (i : Nat) => (i : Int)).map .int := by
  unfold rangeD
  rw [List.map_map]
  simp only [Int.sub_zero]
  apply List.map_congr_left
  intro i _
  simp
theorem deal_ok (c m : Int) (hm : 0 ≤ m) (hm2 : m < 49000) : ∃ n : Int, 0 ≤ n ∧ lawDeal [.int c, .int m] = .ok (.int n) := by
  unfold lawDeal
  walk_at "ev"
  have p : powD (.int 10) (.int 18) = .ok (.int (10 ^ 18)) := powI (by decide +kernel)
  simp only [p, Res.bind_ok, geI, subI, thenR_ok]
  by_cases h : (10 : Int) ^ 18 ≤ c
  · simp only [decide_eq_true h]
    walk_at "ev"
    exact ⟨_, by omega, rfl⟩
  · simp only [decide_eq_false h]
    walk_at "ev"
    rw [modI (by decide)]
    simp only [addI, Res.bind_ok]
    have hq : 0 ≤ c % 2147483647 ∧ c % 2147483647 < 2147483647 := ⟨Int.emod_nonneg _ (by decide), Int.emod_lt_of_pos _ (by decide)⟩
    generalize c % 2147483647 = q at hq ⊢
    rw [mulI 33 20 (by omega) (by decide) (by decide)]
    walk_at "ev"
    rw [modI (by decide)]
    walk_at "ev"
    have hr : rng1 [.int m] = .ok (rangeD 0 m) := by
      show (if _ then _ else _) = _
      rw [if_pos ⟨by omega, by omega⟩]
    simp only [hr, Res.bind_ok, thenR_ok, rangeD_map]
    have ho : 0 ≤ (q + 977) * 69621 % 2147483647 ∧ (q + 977) * 69621 % 2147483647 < 2147483647 := ⟨Int.emod_nonneg _ (by decide), Int.emod_lt_of_pos _ (by decide)⟩
    obtain ⟨n2, o2, z4, z5, k0, kb, f⟩ := deal_loop c m ((List.range m.toNat).map fun (i : Nat) => (i : Int)) 0 _ none none 1 (by decide) (by decide) ho (by rw [List.length_map, List.length_range]; omega)
    rw [f]
    exact ⟨n2, k0, rfl⟩
end E3

namespace E3
open PySem PySem.Spec PyProof.Rows L2
local macro_rules | `(tactic| walk_at "ev") => `(tactic| simp only [fnD, startF, endF, sSeq, sAsg, sSet, sSetV, sAsgV, sIf, sRet, sNew, sMut, sMutV, sFor, sForR, sFreeze, sNil, optK, thenR_ok, thenR_exc, thenR_stuck,
  view, mask, eVar, eC, e1, e2, eCall, eTup, eLst, eSl, oNone, oSome, eAnd, eOr, eIf, E3.tAnd, E3.tOr, E3.tNot, E3.tB, asB, notD, aNil, aCons, Res.bind_ok, Res.bind_exc, Res.bind_stuck,
  gT, gsCons, gsNil, gN, tupD, lstD, Slot.dat, Slot.shd, List.length_cons, List.length_nil, List.map_cons, List.map_nil, List.replicate, List.append_nil, List.cons_append, List.nil_append, Option.map_some, Option.map_none, Option.bind_some, Option.bind_none,
  List.getElem?_cons_zero, List.getElem?_cons_succ, List.set_cons_zero, List.set_cons_succ, Nat.reduceAdd, Nat.reduceSub, Nat.reduceEqDiff, if_true, if_false, ite_true, ite_false, reduceIte, decide_true, decide_false, reduceCtorEq])
theorem eqI (i j : Int) : eqD (.int i) (.int j) = .ok (.bool (i == j)) := rfl
theorem neI (i j : Int) : neD (.int i) (.int j) = .ok (.bool (!(i == j))) := rfl
theorem eqD_refl {d : D} (h : SeqAt.shaped d = true) : eqD d d = .ok (.bool true) := by
  unfold eqD
  rw [h, SeqAt.eqv_refl d (SeqAt.canLay_of_shaped h)]; rfl
theorem neD_refl {d : D} (h : SeqAt.shaped d = true) : neD d d = .ok (.bool false) := by
  unfold neD
  rw [h, SeqAt.eqv_refl d (SeqAt.canLay_of_shaped h)]; rfl
def lawSpot : List D → Res D := fnD 6 2 (sSeq (sAsg (gT 2 (gsCons (gN 0) (gsCons (gN 2) gsNil))) (eCall divmodD (aCons (eVar 0) (aCons (eC (.int 6)) aNil))))
  (sSeq (sSet 3 (e2 ixD (eLst (aCons (eC (.int 4)) (aCons (eC (.int 4)) (aCons (eC (.int 6)) (aCons (eC (.int 3)) (aCons (e2 addD (e2 mulD (eC (.int 2)) (eVar 1)) (eC (.int 1))) (aCons (eC (.int 3)) aNil))))))) (eVar 2)))
  (sSeq (sAsg (gT 2 (gsCons (gN 0) (gsCons (gN 4) gsNil))) (eCall divmodD (aCons (eVar 0) (aCons (eVar 3) aNil))))
  (sSeq (sAsg (gT 2 (gsCons (gN 0) (gsCons (gN 5) gsNil))) (eCall divmodD (aCons (eVar 0) (aCons (eVar 3) aNil))))
  (sSeq (sIf (tB (e2 eqD (eVar 2) (eC (.int 4)))) (sRet (eTup (aCons (eVar 0) (aCons (eTup (aCons (e2 subD (eVar 4) (eVar 1)) (aCons (e2 subD (eVar 5) (eVar 1)) aNil))) aNil)))) sNil)
  (sSeq (sIf (tB (e2 eqD (eVar 2) (eC (.int 5)))) (sRet (eTup (aCons (eVar 0) (aCons (eTup (aCons (e2 subD (eVar 1) (eVar 4)) (aCons (e2 subD (eVar 5) (eVar 1)) aNil))) aNil)))) sNil)
  (sRet (eTup (aCons (eVar 0) (aCons (eTup (aCons (e2 subD (eVar 4) (eC (.int 1))) (aCons (e2 subD (eVar 5) (eC (.int 2))) aNil))) aNil))))))))))
theorem ix6 (a b c d e f : D) (w : Int) : ixD (.list [a, b, c, d, e, f]) (.int w) = optR (L2.atI [a, b, c, d, e, f] w) := rfl
theorem spot_ok (number far : Int) (h0 : 0 ≤ number) (hf : 4 ≤ far) (hF : far < 2 ^ 100) :
    ∃ n r c : Int, 0 ≤ n ∧ n ≤ number ∧ (-far ≤ r ∧ r ≤ far) ∧ (-far ≤ c ∧ c ≤ far) ∧ lawSpot [.int number, .int far] = .ok (.tuple [.int n, cell r c]) := by
  have s0 : 0 ≤ number / 6 ∧ number / 6 ≤ number := by omega
  have w0 : 0 ≤ number % 6 ∧ number % 6 < 6 := by omega
  have p102 : (2 : Int) ^ 102 = 5070602400912917605986812821504 := by decide +kernel
  have n102 : (2 : Nat) ^ 102 = 5070602400912917605986812821504 := by decide +kernel
  have p100 : (2 : Int) ^ 100 = 1267650600228229401496703205376 := by decide +kernel
  have n100 : (2 : Nat) ^ 100 = 1267650600228229401496703205376 := by decide +kernel
  have key : ∀ s : Int, 0 < s → s < 2 ^ 102 → ∃ n r c : Int, (0 ≤ n ∧ n ≤ number) ∧ (0 ≤ r ∧ r < s) ∧ (0 ≤ c ∧ c < s) ∧ divmodD [.int (number / 6), .int s] = .ok (.tuple [.int (number / 6 / s), .int r]) ∧ divmodD [.int (number / 6 / s), .int s] = .ok (.tuple [.int n, .int c]) := fun s h1 h2 => by
    have hb : s.natAbs < 2 ^ 102 := by omega
    have hl : s.natAbs.log2 < 9000 := log2_lt 102 hb (by decide) h1
    have q0 : 0 ≤ number / 6 / s := Int.ediv_nonneg s0.1 (by omega)
    have q1 : number / 6 / s ≤ number / 6 := Int.ediv_le_self _ s0.1
    have q2 : number / 6 / s / s ≤ number / 6 / s := Int.ediv_le_self _ q0
    exact ⟨_, _, _, ⟨Int.ediv_nonneg q0 (by omega), by omega⟩, ⟨Int.emod_nonneg _ (by omega), Int.emod_lt_of_pos _ h1⟩, ⟨Int.emod_nonneg _ (by omega), Int.emod_lt_of_pos _ h1⟩, divmodI h1 hl, divmodI h1 hl⟩
  have hfb : far.natAbs < 2 ^ 100 := by omega
  generalize hw : number % 6 = w at w0
  have fin : ∀ s : Int, 0 < s → s < 2 ^ 102 → L2.atI [PyData.int 4, .int 4, .int 6, .int 3, .int (2 * far + 1), .int 3] w = some (.int s) → (w = 4 → s = 2 * far + 1) → (w = 5 → s = 3) → (w ≠ 4 → w ≠ 5 → s ≤ 6) →
      ∃ n r c : Int, 0 ≤ n ∧ n ≤ number ∧ (-far ≤ r ∧ r ≤ far) ∧ (-far ≤ c ∧ c ≤ far) ∧ lawSpot [.int number, .int far] = .ok (.tuple [.int n, cell r c]) := by
    intro s h1 h2 h3 h4 h5 h6
    obtain ⟨n, r, c, hn, hr, hc, e1, e2⟩ := key s h1 h2
    unfold lawSpot
    walk_at "ev"
    rw [divmodI (by decide) (by decide +kernel)]
    walk_at "ev"
    rw [mulI 2 100 (by decide) hfb (by decide)]
    walk_at "ev"
    simp only [addI, Res.bind_ok]
    walk_at "ev"
    rw [hw]
    have le6 : (6 : Nat) ≤ sizeLine := by decide
    have le2 : (2 : Nat) ≤ sizeLine := by decide
    simp only [le6, if_true, Res.bind_ok, ix6, h3, optR, thenR_ok]
    walk_at "ev"
    simp only [e1, thenR_ok]
    walk_at "ev"
    simp only [e2, thenR_ok]
    walk_at "ev"
    simp only [eqI, Res.bind_ok, thenR_ok]
    by_cases h4' : w = 4
    · subst h4'
      have := h4 rfl
      simp only [beq_self_eq_true]
      walk_at "ev"
      simp only [subI, le2]
      walk_at "ev"
      exact ⟨n, r - far, c - far, hn.1, hn.2, by omega, by omega, rfl⟩
    · have z4 : (w == 4) = false := by simp [h4']
      simp only [z4]
      walk_at "ev"
      by_cases h5' : w = 5
      · subst h5'
        have := h5 rfl
        simp only [eqI, Res.bind_ok, thenR_ok, beq_self_eq_true]
        walk_at "ev"
        simp only [subI, le2]
        walk_at "ev"
        exact ⟨n, far - r, c - far, hn.1, hn.2, by omega, by omega, rfl⟩
      · have z5 : (w == 5) = false := by simp [h5']
        have := h6 h4' h5'
        simp only [eqI, Res.bind_ok, thenR_ok, z5]
        walk_at "ev"
        simp only [subI, le2]
        walk_at "ev"
        exact ⟨n, r - 1, c - 2, hn.1, hn.2, by omega, by omega, rfl⟩
  have cs : w = 0 ∨ w = 1 ∨ w = 2 ∨ w = 3 ∨ w = 4 ∨ w = 5 := by omega
  rcases cs with e | e | e | e | e | e
  · subst e; exact fin 4 (by omega) (by omega) rfl (by omega) (by omega) (by omega)
  · subst e; exact fin 4 (by omega) (by omega) rfl (by omega) (by omega) (by omega)
  · subst e; exact fin 6 (by omega) (by omega) rfl (by omega) (by omega) (by omega)
  · subst e; exact fin 3 (by omega) (by omega) rfl (by omega) (by omega) (by omega)
  · subst e; exact fin (2 * far + 1) (by omega) (by omega) rfl (by omega) (by omega) (by omega)
  · subst e; exact fin 3 (by omega) (by omega) rfl (by omega) (by omega) (by omega)
end E3

namespace E3
open PySem PySem.Spec PyProof.Rows L2
local macro_rules | `(tactic| walk_at "ev") => `(tactic| simp only [fnD, startF, endF, sSeq, sAsg, sSet, sSetV, sAsgV, sIf, sRet, sNew, sMut, sMutV, sFor, sForR, sFreeze, sNil, optK, thenR_ok, thenR_exc, thenR_stuck,
  view, mask, eVar, eC, e1, e2, eCall, eTup, eLst, eSl, oNone, oSome, eAnd, eOr, eIf, E3.tAnd, E3.tOr, E3.tNot, E3.tB, asB, notD, aNil, aCons, Res.bind_ok, Res.bind_exc, Res.bind_stuck,
  gT, gsCons, gsNil, gN, tupD, lstD, Slot.dat, Slot.shd, List.length_cons, List.length_nil, List.map_cons, List.map_nil, List.replicate, List.append_nil, List.cons_append, List.nil_append, Option.map_some, Option.map_none, Option.bind_some, Option.bind_none,
  List.getElem?_cons_zero, List.getElem?_cons_succ, List.set_cons_zero, List.set_cons_succ, Nat.reduceAdd, Nat.reduceSub, Nat.reduceEqDiff, if_true, if_false, ite_true, ite_false, reduceIte, decide_true, decide_false, reduceCtorEq])
theorem le0 : (0 : Nat) ≤ sizeLine := by decide
theorem le1 : (1 : Nat) ≤ sizeLine := by decide
theorem le2 : (2 : Nat) ≤ sizeLine := by decide
theorem le3 : (3 : Nat) ≤ sizeLine := by decide
theorem le4 : (4 : Nat) ≤ sizeLine := by decide
theorem le5 : (5 : Nat) ≤ sizeLine := by decide
theorem le6 : (6 : Nat) ≤ sizeLine := by decide
theorem le7 : (7 : Nat) ≤ sizeLine := by decide
theorem le8 : (8 : Nat) ≤ sizeLine := by decide
theorem eVar_zero {d : D} {σ : DS} : eVar 0 (some d :: σ) = .ok d := rfl
theorem eVar_succ {o : Option D} {σ : DS} {i : Nat} : eVar (i + 1) (o :: σ) = eVar i σ := rfl
theorem forS_inv {p : GF} {body : SF} {Inv : Nat → SS → Prop} : ∀ (ds : List D) (n : Nat) (σ : SS), Inv n σ →
    (∀ m d σ, d ∈ ds → m < n + ds.length → Inv m σ → ∃ σ1 σ2, p d σ = some σ1 ∧ (body σ1 = .ok .nx σ2 ∨ body σ1 = .ok .ct σ2) ∧ Inv (m + 1) σ2) → ∃ σ', forS p body ds σ = .ok .nx σ' ∧ Inv (n + ds.length) σ'
  | [], n, σ, h, _ => ⟨σ, rfl, h⟩
  | d :: ds, n, σ, h, k => by
    obtain ⟨σ1, σ2, e1, e2, h2⟩ := k n d σ List.mem_cons_self (by rw [List.length_cons]; omega) h
    obtain ⟨σ3, e3, h3⟩ := forS_inv ds (n + 1) σ2 h2 fun m d' σ' hd hm hi => k m d' σ' (List.mem_cons_of_mem _ hd) (by rw [List.length_cons]; omega) hi
    refine ⟨σ3, ?_, by rw [List.length_cons]; have : n + (ds.length + 1) = n + 1 + ds.length := by omega
                       rw [this]; exact h3⟩
    unfold forS
    rw [e1]
    rcases e2 with e2 | e2
    · simp only [e2]; exact e3
    · simp only [e2]; exact e3
abbrev cellD (p : Int × Int) : D := cell p.1 p.2
theorem keysOf_enc : ∀ ks : List (List Int), keysOf (ks.map encK) = some ks
  | [] => rfl
  | k :: ks => by
    have h : keyOf (encK k) = some k := intsOf_map k
    show (match keyOf (encK k), keysOf (ks.map encK) with
      | some k, some ks => some (k :: ks)
      | _, _ => none) = _
    rw [h, keysOf_enc ks]
abbrev ltP (a b : Int × Int) : Prop := a.1 < b.1 ∨ a.1 = b.1 ∧ a.2 < b.2
theorem lt_pair {a b c d : Int} (h : [a, b] ≤ [c, d]) (n : [a, b] ≠ [c, d]) : a < c ∨ a = c ∧ b < d := by
  rcases Int.lt_trichotomy a c with z | z | z
  · exact .inl z
  · subst z
    refine .inr ⟨rfl, ?_⟩
    rcases Int.lt_trichotomy b d with y | y | y
    · exact y
    · subst y; exact absurd rfl n
    · exact absurd (List.cons_lt_cons_iff.mpr (.inr ⟨rfl, List.cons_lt_cons_iff.mpr (.inl y)⟩)) h
  · exact absurd (List.cons_lt_cons_iff.mpr (.inl z)) h
theorem sortSet_pairs (ps : List (Int × Int)) (hl : ps.length ≤ 63) : ∃ qs : List (Int × Int), sortSetD (.list (ps.map cellD)) = .ok (.list (qs.map cellD)) ∧ (∀ q, q ∈ qs ↔ q ∈ ps) ∧ qs.length ≤ ps.length ∧ qs.Pairwise ltP := by
  let ks : List (List Int) := ps.map fun p => [p.1, p.2]
  have e1 : ps.map cellD = ks.map encK := by
    show _ = (ps.map _).map encK
    rw [List.map_map]; rfl
  have hm : ∀ k ∈ riseK (dd ks), ∃ p ∈ ps, k = [p.1, p.2] := fun k hk => by
    have := mem_dd.mp ((riseK_perm _).mem_iff.mp hk)
    obtain ⟨p, hp, rfl⟩ := List.mem_map.mp this
    exact ⟨p, hp, rfl⟩
  let qs : List (Int × Int) := (riseK (dd ks)).map fun k => (k.getD 0 0, k.getD 1 0)
  refine ⟨qs, ?_, fun q => ?_, ?_, ?_⟩
  · rw [e1]
    show (match keysOf (ks.map encK) with
      | some ks => if ks.length ≤ setMost ∧ (ks.all fun k => !k.isEmpty) = true then Res.ok (PyData.list ((riseK (dd ks)).map encK)) else .stuck
      | none => .stuck) = _
    rw [keysOf_enc]
    have c1 : ks.length ≤ setMost := by show (ps.map _).length ≤ _; rw [List.length_map]; exact hl
    have c2 : (ks.all fun k => !k.isEmpty) = true := List.all_eq_true.mpr fun k hk => by
      obtain ⟨p, hp, rfl⟩ := List.mem_map.mp hk; rfl
    simp only []
    rw [if_pos ⟨c1, c2⟩]
    have : (riseK (dd ks)).map encK = qs.map cellD := by
      show _ = (List.map _ _).map cellD
      rw [List.map_map]
      refine List.map_congr_left fun k hk => ?_
      obtain ⟨p, hp, rfl⟩ := hm k hk
      rfl
    rw [this]
  · constructor
    · intro hq
      obtain ⟨k, hk, rfl⟩ := List.mem_map.mp hq
      obtain ⟨p, hp, rfl⟩ := hm k hk
      exact hp
    · intro hq
      refine List.mem_map.mpr ⟨[q.1, q.2], (riseK_perm _).mem_iff.mpr (mem_dd.mpr (List.mem_map.mpr ⟨q, hq, rfl⟩)), rfl⟩
  · show (List.map _ _).length ≤ _
    rw [List.length_map, (riseK_perm _).length_eq]
    have : ∀ l : List (List Int), (dd l).length ≤ l.length := fun l => by
      induction l with
      | nil => exact Nat.le_refl _
      | cons a l ih =>
        unfold dd
        split
        · rw [List.length_cons]; omega
        · rw [List.length_cons, List.length_cons]; omega
    refine Nat.le_trans (this ks) ?_
    show (ps.map _).length ≤ _
    rw [List.length_map]; exact Nat.le_refl _
  · refine List.pairwise_map.mpr ?_
    have nd : (riseK (dd ks)).Nodup := (riseK_perm _).nodup_iff.mpr (nodup_dd _)
    have pw := (riseK_pair (dd ks)).and nd
    refine pw.imp_of_mem fun {a b} ha hb h => ?_
    obtain ⟨p, hp, rfl⟩ := hm a ha
    obtain ⟨q, hq, rfl⟩ := hm b hb
    exact lt_pair h.1 h.2
theorem lay_cells : ∀ ps : List (Int × Int), PyData.canLayAll0 (ps.map cellD) = true
  | [] => rfl
  | p :: ps => by
    show (PyData.canLay0 (cellD p) && PyData.canLayAll0 (ps.map cellD)) = true
    rw [lay_cells ps]; rfl
theorem deep_cells : ∀ ps : List (Int × Int), PyData.depthAll (ps.map cellD) ≤ 1
  | [] => by decide
  | p :: ps => by
    show max (PyData.depth (cellD p)) (PyData.depthAll (ps.map cellD)) ≤ 1
    have := deep_cells ps
    have h : PyData.depth (cellD p) = 1 := rfl
    omega
abbrev shp (ps : List (Int × Int)) (b : Bool) : D := .tuple [.tuple (ps.map cellD), .bool b]
theorem shaped_cells (ps : List (Int × Int)) : SeqAt.shaped (.tuple (ps.map cellD)) = true := by
  refine Bool.and_eq_true_iff.mpr ⟨lay_cells ps, decide_eq_true ?_⟩
  show PyData.depthAll (ps.map cellD) + 1 ≤ 64
  have := deep_cells ps
  omega
theorem shaped_shp (ps : List (Int × Int)) (b : Bool) : SeqAt.shaped (shp ps b) = true := by
  refine Bool.and_eq_true_iff.mpr ⟨?_, decide_eq_true ?_⟩
  · show (PyData.canLayAll0 (ps.map cellD) && (true && true)) = true
    rw [lay_cells]; rfl
  · show max (PyData.depthAll (ps.map cellD) + 1) (max 0 0) + 1 ≤ 64
    have := deep_cells ps
    omega
def shapeB : SF := (sSeq (sAsg (gT 2 (gsCons (gN 0) (gsCons (gN 7) gsNil))) (eCall lawSpot (aCons (eVar 0) (aCons (eVar 2) aNil))))
  (sMut 5 appendM (aCons (eVar 7) aNil)))
def lawShape : List D → Res D := fnD 8 3 (sSeq (sAsg (gT 2 (gsCons (gN 0) (gsCons (gN 3) gsNil))) (eCall divmodD (aCons (eVar 0) (aCons (e2 addD (eVar 1) (eC (.int 1))) aNil))))
  (sSeq (sAsg (gT 2 (gsCons (gN 0) (gsCons (gN 4) gsNil))) (eCall divmodD (aCons (eVar 0) (aCons (eC (.int 2)) aNil))))
  (sSeq (sNew 5 (eLst aNil))
  (sSeq (sFor (fun σ => ((aCons (eVar 3) aNil) σ).bind rng1) (gN 6) shapeB)
  (sFreeze 5 (sRet (eTup (aCons (eVar 0) (aCons (eTup (aCons (eCall tupleD (aCons (e1 sortSetD (eVar 5)) aNil)) (aCons (e2 eqD (eVar 4) (eC (.int 1))) aNil))) aNil)))))))))
abbrev inB (far : Int) (p : Int × Int) : Prop := (-far ≤ p.1 ∧ p.1 ≤ far) ∧ (-far ≤ p.2 ∧ p.2 ≤ far)
def shInv (most far cnt rst : Int) (n : Nat) (σ : SS) : Prop := ∃ (number : Int) (ps : List (Int × Int)) (x6 x7 : Option Slot), 0 ≤ number ∧ ps.length = n ∧ (∀ p ∈ ps, inB far p) ∧
  σ = [some (.sh (.int number)), some (.sh (.int most)), some (.sh (.int far)), some (.sh (.int cnt)), some (.sh (.int rst)), some (.ow (.list (ps.map cellD))), x6, x7]
theorem shape_ok (number most far : Int) (h0 : 0 ≤ number) (hm : 0 ≤ most) (hm2 : most ≤ 63) (hf : 4 ≤ far) (hF : far < 2 ^ 100) :
    ∃ (n : Int) (ps : List (Int × Int)) (b : Bool), 0 ≤ n ∧ (ps.length : Int) ≤ most ∧ (∀ p ∈ ps, inB far p) ∧ ps.Pairwise ltP ∧ lawShape [.int number, .int most, .int far] = .ok (.tuple [.int n, shp ps b]) := by
  unfold lawShape
  walk_at "ev"
  simp only [addI, Res.bind_ok]
  have hl : (most + 1).natAbs.log2 < 9000 := log2_lt 7 (by omega) (by decide) (by omega)
  rw [divmodI (by omega) hl]
  walk_at "ev"
  rw [divmodI (by decide) (by decide +kernel)]
  walk_at "ev"
  have c0 : 0 ≤ number % (most + 1) ∧ number % (most + 1) < most + 1 := ⟨Int.emod_nonneg _ (by omega), Int.emod_lt_of_pos _ (by omega)⟩
  have n0 : 0 ≤ number / (most + 1) / 2 := Int.ediv_nonneg (Int.ediv_nonneg h0 (by omega)) (by decide)
  generalize number % (most + 1) = cnt at c0 ⊢
  generalize number / (most + 1) % 2 = rst
  generalize number / (most + 1) / 2 = nn at n0 ⊢
  have le0 : (0 : Nat) ≤ sizeLine := by decide
  have le2 : (2 : Nat) ≤ sizeLine := by decide
  simp only [le0, if_true, thenR_ok]
  walk_at "ev"
  have hr : rng1 [.int cnt] = .ok (rangeD 0 cnt) := by
    show (if _ then _ else _) = _
    rw [if_pos ⟨by omega, by omega⟩]
  simp only [hr, Res.bind_ok, thenR_ok]
  obtain ⟨σ', e, number', ps, x6, x7, k0, kl, kb, rfl⟩ := forS_inv (p := gN 6) (body := shapeB) (Inv := shInv most far cnt rst) (rangeD 0 cnt) 0
    [some (.sh (.int nn)), some (.sh (.int most)), some (.sh (.int far)), some (.sh (.int cnt)), some (.sh (.int rst)), some (.ow (.list [])), none, none] ⟨nn, [], none, none, n0, rfl, (fun p hp => nomatch hp), rfl⟩ (by
      rintro m d σ hd hlt ⟨nu, ps, x6, x7, k0, kl, kb, rfl⟩
      obtain ⟨n1, r, c, b0, _, br, bc, e⟩ := spot_ok nu far k0 hf hF
      refine ⟨_, _, rfl, .inl ?_, n1, ps ++ [(r, c)], some (.sh d), some (.sh (cell r c)), b0, by simp [kl], ?_, rfl⟩
      · unfold shapeB
        walk_at "ev"
        rw [e]
        walk_at "ev"
        have hlen : (ps.map cellD).length < sizeLine := by
          rw [List.length_map, kl]
          have : (rangeD 0 cnt).length = cnt.toNat := by simp [rangeD]
          have := sizeLine_eq
          omega
        simp only [ownL, List.getElem?_cons_succ, List.getElem?_cons_zero, thenR_ok, appendM, hlen, if_true, mutK, List.set_cons_succ, List.set_cons_zero, List.map_append, List.map_cons, List.map_nil]
      · intro p hp
        rcases List.mem_append.mp hp with hp | hp
        · exact kb p hp
        · cases List.mem_singleton.mp hp
          exact ⟨br, bc⟩)
  simp only [e]
  walk_at "ev"
  have kl' : ps.length = cnt.toNat := by rw [kl]; simp [rangeD]
  obtain ⟨qs, e1, e2, e3, e4⟩ := sortSet_pairs ps (by omega)
  simp only [e1, Res.bind_ok, tupleD, eqI, le2, if_true]
  refine ⟨_, qs, _, k0, by omega, fun p hp => kb p ((e2 p).mp hp), e4, rfl⟩
theorem cut_ints (ns : List Int) (lo hi : Option Int) : ∃ ms : List Int, cutD (ns.map PyData.int) lo hi = ms.map PyData.int ∧ ms.length ≤ ns.length :=
  ⟨(ns.drop (HT.sIx (ns.map PyData.int).length 0 lo)).take (HT.sIx (ns.map PyData.int).length (ns.map PyData.int).length hi - HT.sIx (ns.map PyData.int).length 0 lo), by
    unfold cutD
    rw [List.map_take, List.map_drop], by
    rw [List.length_take, List.length_drop]; omega⟩
theorem cut_cat (ns ks : List Int) (lo hi : Option Int) (h : ns.length + ks.length ≤ sizeLine) : ∃ ms : List Int, addD (.list (cutD (ns.map PyData.int) lo hi)) (.list (ks.map PyData.int)) = .ok (.list (ms.map PyData.int)) ∧ ms.length ≤ ns.length + ks.length := by
  obtain ⟨ms, e, hl⟩ := cut_ints ns lo hi
  refine ⟨ms ++ ks, ?_, by rw [List.length_append]; omega⟩
  rw [e]
  show (if _ then _ else _) = _
  rw [if_pos (by rw [List.length_map, List.length_map]; omega), List.map_append]
end E3

namespace E3
open PySem PySem.Spec PyProof.Rows L2
theorem ltP_irr (a : Int × Int) : ¬ ltP a a := by
  rintro (h | ⟨_, h⟩) <;> omega
theorem ltP_asym {a b : Int × Int} (h : ltP a b) : ¬ ltP b a := by
  rcases h with h | ⟨h1, h2⟩ <;> rintro (k | ⟨k1, k2⟩) <;> omega
theorem pw_nodup {xs : List (Int × Int)} (h : xs.Pairwise ltP) : xs.Nodup := h.imp fun {a b} z e => by
  subst e; exact ltP_irr _ z
theorem rise_uniq {xs ys : List (Int × Int)} (hx : xs.Pairwise ltP) (hy : ys.Pairwise ltP) (h : ∀ p, p ∈ xs ↔ p ∈ ys) : xs = ys := by
  have pm : xs.Perm ys := (List.perm_ext_iff_of_nodup (pw_nodup hx) (pw_nodup hy)).mpr h
  exact List.Perm.eq_of_pairwise (le := ltP) (fun a b _ _ h1 h2 => absurd h2 (ltP_asym h1)) hx hy pm
abbrev kOf (p : Int × Int) : List Int := [p.1, p.2]
abbrev pOf (k : List Int) : Int × Int := (k.getD 0 0, k.getD 1 0)
def srt (ps : List (Int × Int)) : List (Int × Int) := (riseK (dd (ps.map kOf))).map pOf
theorem srt_from {ps : List (Int × Int)} : ∀ k ∈ riseK (dd (ps.map kOf)), ∃ p ∈ ps, k = kOf p := fun k hk => by
  obtain ⟨p, hp, rfl⟩ := List.mem_map.mp (mem_dd.mp ((riseK_perm _).mem_iff.mp hk))
  exact ⟨p, hp, rfl⟩
theorem mem_srt {ps : List (Int × Int)} {q : Int × Int} : q ∈ srt ps ↔ q ∈ ps := by
  constructor
  · intro hq
    obtain ⟨k, hk, rfl⟩ := List.mem_map.mp hq
    obtain ⟨p, hp, rfl⟩ := srt_from k hk
    exact hp
  · exact fun hq => List.mem_map.mpr ⟨kOf q, (riseK_perm _).mem_iff.mpr (mem_dd.mpr (List.mem_map.mpr ⟨q, hq, rfl⟩)), rfl⟩
theorem pw_srt (ps : List (Int × Int)) : (srt ps).Pairwise ltP := by
  refine List.pairwise_map.mpr ?_
  have nd : (riseK (dd (ps.map kOf))).Nodup := (riseK_perm _).nodup_iff.mpr (nodup_dd _)
  refine ((riseK_pair _).and nd).imp_of_mem fun {a b} ha hb h => ?_
  obtain ⟨p, hp, rfl⟩ := srt_from a ha
  obtain ⟨q, hq, rfl⟩ := srt_from b hb
  exact lt_pair h.1 h.2
theorem dd_len : ∀ l : List (List Int), (dd l).length ≤ l.length
  | [] => Nat.le_refl _
  | a :: l => by
    have := dd_len l
    unfold dd
    split
    · rw [List.length_cons]; omega
    · rw [List.length_cons, List.length_cons]; omega
theorem srt_len (ps : List (Int × Int)) : (srt ps).length ≤ ps.length := by
  unfold srt
  rw [List.length_map, (riseK_perm _).length_eq]
  exact Nat.le_trans (dd_len _) (by rw [List.length_map]; exact Nat.le_refl _)
theorem srt_id {ps : List (Int × Int)} (h : ps.Pairwise ltP) : srt ps = ps := rise_uniq (pw_srt _) h fun _ => mem_srt
theorem srt_cells (ps : List (Int × Int)) : (riseK (dd (ps.map kOf))).map encK = (srt ps).map cellD := by
  unfold srt
  rw [List.map_map]
  refine List.map_congr_left fun k hk => ?_
  obtain ⟨p, hp, rfl⟩ := srt_from k hk
  rfl
theorem cells_enc (ps : List (Int × Int)) : ps.map cellD = (ps.map kOf).map encK := by rw [List.map_map]; rfl
theorem sortSet_srt (ps : List (Int × Int)) (hl : ps.length ≤ 63) : sortSetD (.list (ps.map cellD)) = .ok (.list ((srt ps).map cellD)) := by
  rw [← srt_cells, cells_enc]
  show (match keysOf ((ps.map kOf).map encK) with
    | some ks => if ks.length ≤ setMost ∧ (ks.all fun k => !k.isEmpty) = true then Res.ok (PyData.list ((riseK (dd ks)).map encK)) else .stuck
    | none => .stuck) = _
  rw [keysOf_enc]
  have c2 : ((ps.map kOf).all fun k => !k.isEmpty) = true := List.all_eq_true.mpr fun k hk => by
    obtain ⟨p, hp, rfl⟩ := List.mem_map.mp hk; rfl
  simp only []
  rw [if_pos ⟨by rw [List.length_map]; exact hl, c2⟩]
theorem dd_nodup : ∀ {l : List (List Int)}, l.Nodup → dd l = l
  | [], _ => rfl
  | a :: l, h => by
    obtain ⟨h1, h2⟩ := List.nodup_cons.mp h
    unfold dd
    rw [dd_nodup h2, if_neg h1]
theorem kOf_nodup {ps : List (Int × Int)} (h : ps.Nodup) : (ps.map kOf).Nodup := List.pairwise_map.mpr (h.imp fun {a b} ne e => ne (by
  have e1 : a.1 = b.1 := (List.cons.inj e).1
  have e2 : a.2 = b.2 := (List.cons.inj (List.cons.inj e).2).1
  exact Prod.ext e1 e2))
theorem sort_srt (ps : List (Int × Int)) (hl : ps.length ≤ sizeLine) (hn : ps.Nodup) : sortedD [.list (ps.map cellD)] = .ok (.list ((srt ps).map cellD)) := by
  have ok : sortOk (ps.map cellD) = true := by
    unfold sortOk
    have a1 : ((ps.map cellD).all fun d => (ps.map cellD).all fun e => PySem.W.alike d e) = true := List.all_eq_true.mpr fun d hd => List.all_eq_true.mpr fun e he => by
      obtain ⟨p, _, rfl⟩ := List.mem_map.mp hd
      obtain ⟨q, _, rfl⟩ := List.mem_map.mp he
      exact alike_encK (kOf p) (kOf q)
    have a2 : (ps.map cellD).all isTupNE = true := List.all_eq_true.mpr fun d hd => by
      obtain ⟨p, _, rfl⟩ := List.mem_map.mp hd; rfl
    have a3 := lay_cells ps
    have a4 : PyData.depthAll (ps.map cellD) ≤ 64 := Nat.le_trans (deep_cells ps) (by decide)
    rw [a1, a2, a3, decide_eq_true a4, decide_eq_true (by rw [List.length_map]; exact hl)]; rfl
  show (if sortOk (ps.map cellD) = true then Res.ok (PyData.list (sortL (ps.map cellD))) else .stuck) = _
  rw [if_pos ok, ← srt_cells, dd_nodup (kOf_nodup hn), cells_enc, sortL_enc]
theorem forS_go {α : Type} {p : GF} {body : SF} {g : α → D} {Inv : List α → SS → Prop} (all : List α) : ∀ (xs done : List α) (σ : SS), all = done ++ xs → Inv done σ →
    (∀ pre x post σ, all = pre ++ x :: post → Inv pre σ → ∃ σ1 σ2, p (g x) σ = some σ1 ∧ (body σ1 = .ok .nx σ2 ∨ body σ1 = .ok .ct σ2) ∧ Inv (pre ++ [x]) σ2) → ∃ σ', forS p body (xs.map g) σ = .ok .nx σ' ∧ Inv all σ'
  | [], done, σ, e, h, _ => ⟨σ, rfl, by rw [e, List.append_nil]; exact h⟩
  | x :: xs, done, σ, e, h, k => by
    obtain ⟨σ1, σ2, e1, e2, h2⟩ := k done x xs σ e h
    obtain ⟨σ3, e3, h3⟩ := forS_go all xs (done ++ [x]) σ2 (by rw [e, List.append_assoc]; rfl) h2 k
    refine ⟨σ3, ?_, h3⟩
    rw [List.map_cons]
    unfold forS
    rw [e1]
    rcases e2 with e2 | e2
    · simp only [e2]; exact e3
    · simp only [e2]; exact e3
theorem forS_pre {α : Type} {p : GF} {body : SF} {g : α → D} {Inv : List α → SS → Prop} (xs : List α) (σ : SS) (h : Inv [] σ)
    (k : ∀ pre x post σ, xs = pre ++ x :: post → Inv pre σ → ∃ σ1 σ2, p (g x) σ = some σ1 ∧ (body σ1 = .ok .nx σ2 ∨ body σ1 = .ok .ct σ2) ∧ Inv (pre ++ [x]) σ2) : ∃ σ', forS p body (xs.map g) σ = .ok .nx σ' ∧ Inv xs σ' :=
  forS_go xs xs [] σ rfl h k
theorem lc_map {p : GF} {c : DS → Res Bool} {f : DS → Res D} {σ : DS} {g : D → D} : ∀ (ds : List D), (∀ d ∈ ds, ∃ σ2, patD p d σ = some σ2 ∧ c σ2 = .ok true ∧ f σ2 = .ok (g d)) → lcD p c f σ ds = .ok (ds.map g)
  | [], _ => rfl
  | d :: ds, h => by
    obtain ⟨σ2, a, b, e⟩ := h d List.mem_cons_self
    unfold lcD
    rw [a]
    simp only [b, e, Res.ne, Res.bind_ok, if_true, lc_map ds fun d' hd => h d' (List.mem_cons_of_mem _ hd)]
    rfl
theorem lc_of {α : Type} {p : GF} {c : DS → Res Bool} {f : DS → Res D} {σ : DS} {g : α → D} {q : α → D} : ∀ (xs : List α), (∀ x ∈ xs, ∃ σ2, patD p (g x) σ = some σ2 ∧ c σ2 = .ok true ∧ f σ2 = .ok (q x)) → lcD p c f σ (xs.map g) = .ok (xs.map q)
  | [], _ => rfl
  | x :: xs, h => by
    obtain ⟨σ2, a, b, e⟩ := h x List.mem_cons_self
    rw [List.map_cons]
    unfold lcD
    rw [a]
    simp only [b, e, Res.ne, Res.bind_ok, if_true, lc_of xs fun d' hd => h d' (List.mem_cons_of_mem _ hd)]
    rfl
theorem lc_if {α : Type} {p : GF} {c : DS → Res Bool} {f : DS → Res D} {σ : DS} {g : α → D} {q : α → D} {t : α → Bool} : ∀ (xs : List α), (∀ x ∈ xs, ∃ σ2, patD p (g x) σ = some σ2 ∧ c σ2 = .ok (t x) ∧ (t x = true → f σ2 = .ok (q x))) → lcD p c f σ (xs.map g) = .ok ((xs.filter t).map q)
  | [], _ => rfl
  | x :: xs, h => by
    obtain ⟨σ2, a, b, e⟩ := h x List.mem_cons_self
    have ih := lc_if (q := q) (t := t) xs fun d' hd => h d' (List.mem_cons_of_mem _ hd)
    rw [List.map_cons]
    unfold lcD
    rw [a]
    cases ht : t x with
    | true =>
      rw [ht] at b
      simp only [b, e ht, Res.ne, Res.bind_ok, if_true, ih, List.filter_cons, ht, List.map_cons]
    | false =>
      rw [ht] at b
      simp only [b, Res.ne, Res.bind_ok, if_false, ih, List.filter_cons, ht, Bool.false_eq_true]
end E3

namespace E3
open PySem PySem.Spec PyProof.Rows L2
local macro_rules | `(tactic| walk_at "ev") => `(tactic| simp only [fnD, startF, endF, sSeq, sAsg, sSet, sSetV, sAsgV, sIf, sRet, sNew, sMut, sMutV, sFor, sForR, sFreeze, sNil, sExpr, optK, thenR_ok, thenR_exc, thenR_stuck,
  view, mask, E3.eVar_zero, E3.eVar_succ, eC, e1, e2, eCall, eTup, eLst, eSl, oNone, oSome, eAnd, eOr, eIf, E3.tAnd, E3.tOr, E3.tNot, E3.tB, asB, notD, aNil, aCons, Res.bind_ok, Res.bind_exc, Res.bind_stuck,
  gT, gsCons, gsNil, gN, tupD, lstD, Slot.dat, Slot.shd, List.length_cons, List.length_nil, List.map_cons, List.map_nil, List.replicate, List.append_nil, List.cons_append, List.nil_append, Option.map_some, Option.map_none, Option.bind_some, Option.bind_none,
  List.getElem?_cons_zero, List.getElem?_cons_succ, List.set_cons_zero, List.set_cons_succ, Nat.reduceAdd, Nat.reduceSub, Nat.reduceEqDiff, if_true, if_false, ite_true, ite_false, reduceIte, decide_true, decide_false, reduceCtorEq, Bool.not_true, Bool.not_false, Bool.false_eq_true, Bool.true_eq_false, Bool.or_true, Bool.true_or, Bool.false_or, Bool.or_false, addI, subI, ltI, leI, gtI, geI, eqI, neI, ix_cell0, ix_cell1, E3.le1, E3.le2, E3.le3, E3.le4, E3.le5, E3.le6, beq_self_eq_true])
abbrev mv (a b : Int) (p : Int × Int) : Int × Int := (p.1 + a, p.2 + b)
def lawWhole : List D → Res D := fnD 1 1 (sRet (eAnd (e1 (isiD "int") (eVar 0)) (e1 notD (e1 (isiD "bool") (eVar 0)))))
theorem whole_ok (i : Int) : lawWhole [.int i] = .ok (.bool true) := rfl
def lawIsShape : List D → Res D := fnD 3 2 (sSeq (sIf (E3.tOr (E3.tNot (E3.tB (e1 (isiD "tuple") (eVar 0)))) (E3.tOr (tB (e2 neD (eCall lenD (aCons (eVar 0) aNil)) (eC (.int 2)))) (E3.tNot (E3.tB (e1 (isiD "tuple") (e2 ixD (eVar 0) (eC (.int 0)))))))) (sRet (eC (.bool false))) sNil)
  (sSeq (sIf (E3.tOr (E3.tNot (E3.tB (e1 (isiD "bool") (e2 ixD (eVar 0) (eC (.int 1)))))) (tB (e2 neD (eVar 0) (eVar 1)))) (sRet (eC (.bool false))) sNil)
  (sRet (eCall allD (aCons (eLc (fun σ => ((e2 ixD (eVar 0) (eC (.int 0))) σ).bind seqOf) (gN 2) [2] tYesD (eAnd (e1 (isiD "tuple") (eVar 2)) (eAnd (eCall lawWhole (aCons (e2 ixD (eVar 2) (eC (.int 0))) aNil)) (eCall lawWhole (aCons (e2 ixD (eVar 2) (eC (.int 1))) aNil))))) aNil)))))
theorem all_true {α : Type} : ∀ ps : List α, boolsOf (ps.map fun _ => PyData.bool true) = some (ps.map fun _ => true)
  | [] => rfl
  | p :: ps => by
    show (boolsOf (ps.map fun _ => PyData.bool true)).map (true :: ·) = _
    rw [all_true ps]; rfl
theorem is_shape_ok (ps : List (Int × Int)) (b : Bool) (hl : ps.length ≤ sizeLine) : lawIsShape [shp ps b, shp ps b] = .ok (.bool true) := by
  unfold lawIsShape
  have i0 : ixD (shp ps b) (.int 0) = .ok (.tuple (ps.map cellD)) := rfl
  have i1 : ixD (shp ps b) (.int 1) = .ok (.bool b) := rfl
  have ln : lenD [shp ps b] = .ok (.int 2) := rfl
  walk_at "ev"
  simp only [i0, i1, ln, isiD, isiT, Res.bind_ok, neI, neD_refl (shaped_shp ps b), thenR_ok, beq_self_eq_true, Bool.or_true, Bool.true_or, Bool.not_true, Bool.not_false]
  walk_at "ev"
  simp only [i0, i1, ln, isiD, isiT, Res.bind_ok, neI, neD_refl (shaped_shp ps b), beq_self_eq_true, Bool.or_true]
  walk_at "ev"
  simp only [thenR_ok, eLc, Res.bind_ok, seqOf, List.length_map, hl, if_true, e2, eVar, eC, List.getElem?_cons_zero, i0]
  rw [lc_of (q := fun _ => .bool true) ps (fun p hp => by
      refine ⟨_, rfl, rfl, ?_⟩
      have e : (view ((upS (wipeD [some (shp ps b), some (shp ps b), none] [2])).set 2 (some (Slot.sh (cellD p)))))[2]? = some (some (cellD p)) := rfl
      simp only [eAnd, e1, E3.tB, eVar, e, isiD, isiT, Res.bind_ok, asB, eCall, aCons, aNil, e2, eC, ix_cell0, ix_cell1, whole_ok, beq_self_eq_true, if_true])]
  simp only [Res.bind_ok, allD, overB]
  rw [all_true ps]
  simp
def dMovedCell : List D → Res D := fnD 2 2 (sRet (eTup (aCons (e2 addD (e2 ixD (eVar 0) (eC (.int 0))) (e2 ixD (eVar 1) (eC (.int 0)))) (aCons (e2 addD (e2 ixD (eVar 0) (eC (.int 1))) (e2 ixD (eVar 1) (eC (.int 1)))) aNil))))
theorem moved_cell_ok (r c a b : Int) : dMovedCell [cell r c, cell a b] = .ok (cell (r + a) (c + b)) := rfl
def dMoved : List D → Res D := fnD 5 2 (sSeq (sAsg (gT 2 (gsCons (gN 2) (gsCons (gN 3) gsNil))) (eVar 0))
  (sRet (eTup (aCons (eCall tupleD (aCons (eLc (fun σ => ((eVar 2) σ).bind seqOf) (gN 4) [4] tYesD (eCall dMovedCell (aCons (eVar 4) (aCons (eVar 1) aNil)))) aNil)) (aCons (eVar 3) aNil)))))
theorem moved_ok (ps : List (Int × Int)) (b : Bool) (r c : Int) (hl : ps.length ≤ sizeLine) : dMoved [shp ps b, cell r c] = .ok (shp (ps.map (mv r c)) b) := by
  unfold dMoved
  walk_at "ev"
  simp only [seqOf, Res.bind_ok, eLc, List.getElem?_cons_zero, List.getElem?_cons_succ, eVar, wipeD, List.set_cons_succ, List.set_cons_zero, List.length_map, hl, if_true]
  rw [lc_of (q := fun p => cellD (mv r c p)) ps (fun p hp => ⟨_, rfl, rfl, rfl⟩)]
  simp only [Res.bind_ok, tupleD, le2, if_true, thenR_ok, shp, List.map_map]
  rfl
def dRising : List D → Res D := fnD 1 1 (sRet (eCall tupleD (aCons (e1 sortSetD (eVar 0)) aNil)))
theorem rising_ok (ps : List (Int × Int)) (hl : ps.length ≤ 63) : dRising [.list (ps.map cellD)] = .ok (.tuple ((srt ps).map cellD)) := by
  unfold dRising
  walk_at "ev"
  rw [sortSet_srt ps hl]
  walk_at "ev"
  simp only [tupleD, Res.bind_ok, thenR_ok]
end E3

namespace E3
open PySem PySem.Spec PyProof.Rows L2
local macro_rules | `(tactic| walk_at "ev") => `(tactic| try simp only [fnD, startF, endF, sSeq, sAsg, sSet, sSetV, sAsgV, sIf, sRet, sNew, sMut, sMutV, sFor, sForR, sFreeze, sNil, sExpr, optK, thenR_ok, thenR_exc, thenR_stuck,
  view, mask, E3.eVar_zero, E3.eVar_succ, eC, e1, e2, eCall, eTup, eLst, eSl, oNone, oSome, eAnd, eOr, eIf, E3.tAnd, E3.tOr, E3.tNot, E3.tB, asB, notD, aNil, aCons, Res.bind_ok, Res.bind_exc, Res.bind_stuck,
  gT, gsCons, gsNil, gN, tupD, lstD, Slot.dat, Slot.shd, List.length_cons, List.length_nil, List.map_cons, List.map_nil, List.replicate, List.append_nil, List.cons_append, List.nil_append, Option.map_some, Option.map_none, Option.bind_some, Option.bind_none,
  List.getElem?_cons_zero, List.getElem?_cons_succ, List.set_cons_zero, List.set_cons_succ, Nat.reduceAdd, Nat.reduceSub, Nat.reduceEqDiff, if_true, if_false, ite_true, ite_false, reduceIte, decide_true, decide_false, reduceCtorEq, Bool.not_true, Bool.not_false, Bool.false_eq_true, Bool.true_eq_false, Bool.or_true, Bool.true_or, Bool.false_or, Bool.or_false, addI, subI, ltI, leI, gtI, geI, eqI, neI, ix_cell0, ix_cell1, E3.le1, E3.le2, E3.le3, E3.le4, E3.le5, E3.le6, beq_self_eq_true])
theorem eqv_cell (p q : Int × Int) : PyData.eqv (cellD p) (cellD q) = decide (p = q) := by
  have h : PyData.eqv (cellD p) (cellD q) = (p.1 == q.1 && (p.2 == q.2 && true)) := by simp [PyData.eqv, PyData.eqvAll]
  rw [h]
  by_cases e : p = q
  · subst e; simp
  · rw [decide_eq_false e]
    by_cases e1 : p.1 = q.1
    · have e2 : p.2 ≠ q.2 := fun z => e (Prod.ext e1 z)
      simp [e1, e2]
    · simp [e1]
theorem mem_cells (p : Int × Int) (ps : List (Int × Int)) : memD (cellD p) (ps.map cellD) = decide (p ∈ ps) := by
  unfold memD
  induction ps with
  | nil => simp
  | cons q ps ih =>
    rw [List.map_cons, List.any_cons, ih, eqv_cell]
    by_cases e : q = p
    · subst e; simp
    · have e' : p ≠ q := fun z => e z.symm
      simp [e, e']
theorem shaped_cell (p : Int × Int) : SeqAt.shaped (cellD p) = true := by
  refine Bool.and_eq_true_iff.mpr ⟨rfl, decide_eq_true ?_⟩
  show PyData.depth (cellD p) ≤ 64
  have h : PyData.depth (cellD p) = 1 := rfl
  omega
theorem in_cells (p : Int × Int) (ps : List (Int × Int)) : inG (cellD p) (.tuple (ps.map cellD)) = .ok (.bool (decide (p ∈ ps))) := by
  show (if SeqAt.shaped (cellD p) && SeqAt.shaped (.tuple (ps.map cellD)) then Res.ok (PyData.bool (memD (cellD p) (ps.map cellD))) else .stuck) = _
  rw [shaped_cell, shaped_cells, mem_cells]; rfl
def hasK (kvs : List (D × D)) (k : List Int) : Bool := kvs.any fun p => decide (keyOf p.1 = some k)
theorem val_has (kvs : List (D × D)) (k : List Int) : (valK kvs k).isSome = hasK kvs k := by
  unfold valK hasK
  rw [Option.isSome_map]
  induction kvs with
  | nil => rfl
  | cons a l ih =>
    rw [List.find?_cons, List.any_cons]
    cases h : decide (keyOf a.1 = some k)
    · simp only [Bool.false_or]; exact ih
    · rfl
theorem has_put (kvs : List (D × D)) (k : List Int) (v : D) (j : List Int) : hasK (putKD kvs k v) j = (decide (k = j) || hasK kvs j) := by
  unfold putKD
  by_cases h : (kvs.any fun p => decide (keyOf p.1 = some k)) = true
  · rw [if_pos h]
    have e : hasK (kvs.map fun p => if keyOf p.1 = some k then (p.1, v) else p) j = hasK kvs j := by
      unfold hasK
      rw [List.any_map]
      congr 1
      funext p
      show decide (keyOf (if keyOf p.1 = some k then (p.1, v) else p).1 = some j) = _
      by_cases z : keyOf p.1 = some k
      · rw [if_pos z]
      · rw [if_neg z]
    rw [e]
    by_cases z : k = j
    · subst z
      have : hasK kvs k = true := h
      rw [this]; simp
    · rw [decide_eq_false z]; rfl
  · rw [if_neg h]
    unfold hasK
    rw [List.any_append, List.any_cons, List.any_nil, Bool.or_false]
    have : keyOf (.tuple (k.map .int)) = some k := intsOf_map k
    rw [this, Bool.or_comm]
    congr 1
    by_cases z : k = j
    · subst z; simp
    · rw [decide_eq_false z, decide_eq_false (fun y => z (Option.some.inj y))]
theorem len_put (kvs : List (D × D)) (k : List Int) (v : D) : (putKD kvs k v).length ≤ kvs.length + 1 := by
  unfold putKD
  split
  · rw [List.length_map]; omega
  · rw [List.length_append]; simp
theorem kOf_eq {p q : Int × Int} : (kOf p = kOf q) ↔ p = q := ⟨fun e => Prod.ext (List.cons.inj e).1 (List.cons.inj (List.cons.inj e).2).1, fun e => by rw [e]⟩
def minus (ps qs : List (Int × Int)) : List (Int × Int) := ps.filter fun p => !decide (p ∈ qs)
theorem mem_minus {p : Int × Int} {ps qs : List (Int × Int)} : p ∈ minus ps qs ↔ p ∈ ps ∧ p ∉ qs := by
  unfold minus
  rw [List.mem_filter]
  simp
theorem pw_minus {ps qs : List (Int × Int)} (h : ps.Pairwise ltP) : (minus ps qs).Pairwise ltP := h.filter _
theorem len_minus (ps qs : List (Int × Int)) : (minus ps qs).length ≤ ps.length := List.length_filter_le _ _
theorem eqv_cells : ∀ ps qs : List (Int × Int), PyData.eqvAll (ps.map cellD) (qs.map cellD) = decide (ps = qs)
  | [], [] => rfl
  | [], _ :: _ => rfl
  | _ :: _, [] => rfl
  | p :: ps, q :: qs => by
    show (PyData.eqv (cellD p) (cellD q) && PyData.eqvAll (ps.map cellD) (qs.map cellD)) = _
    rw [eqv_cell, eqv_cells ps qs]
    by_cases h1 : p = q <;> by_cases h2 : ps = qs <;> simp [h1, h2]
theorem eqv_shp (ps qs : List (Int × Int)) (b c : Bool) : PyData.eqv (shp ps b) (shp qs c) = (decide (ps = qs) && (b == c)) := by
  show (PyData.eqvAll (ps.map cellD) (qs.map cellD) && ((b == c) && true)) = _
  rw [eqv_cells, Bool.and_true]
theorem eq_shp (ps qs : List (Int × Int)) (b c : Bool) : eqD (shp ps b) (shp qs c) = .ok (.bool (decide (ps = qs) && (b == c))) := by
  unfold eqD
  rw [shaped_shp, shaped_shp, eqv_shp]; rfl
theorem forS_any {α : Type} {p : GF} {body : SF} {g : α → D} {Inv : SS → Prop} {t : α → Bool} {v : D} : ∀ (xs : List α) (σ : SS), Inv σ →
    (∀ x σ, x ∈ xs → Inv σ → ∃ σ1 σ2, p (g x) σ = some σ1 ∧ (if t x then body σ1 = .ok (.rt v) σ2 else body σ1 = .ok .nx σ2 ∧ Inv σ2)) →
    ∃ σ', if xs.any t then forS p body (xs.map g) σ = .ok (.rt v) σ' else forS p body (xs.map g) σ = .ok .nx σ' ∧ Inv σ'
  | [], σ, h, _ => ⟨σ, rfl, h⟩
  | x :: xs, σ, h, k => by
    obtain ⟨σ1, σ2, e1, e2⟩ := k x σ List.mem_cons_self h
    rw [List.any_cons]
    cases ht : t x with
    | true =>
      rw [ht] at e2
      simp only [if_true] at e2
      refine ⟨σ2, ?_⟩
      rw [Bool.true_or, if_pos rfl, List.map_cons]
      unfold forS
      rw [e1]
      simp only [e2]
    | false =>
      rw [ht] at e2
      simp only [Bool.false_eq_true, if_false] at e2
      obtain ⟨σ3, h3⟩ := forS_any xs σ2 e2.2 fun y σ' hy hi => k y σ' (List.mem_cons_of_mem _ hy) hi
      refine ⟨σ3, ?_⟩
      rw [Bool.false_or, List.map_cons]
      have e : forS p body (g x :: xs.map g) σ = forS p body (xs.map g) σ2 := by
        show (match p (g x) σ with
          | none => SR.stuck
          | some σ1 => match body σ1 with
            | .ok .nx σ2 => forS p body (xs.map g) σ2
            | .ok .ct σ2 => forS p body (xs.map g) σ2
            | .ok .bk σ2 => .ok .nx σ2
            | .ok (.rt v) σ2 => .ok (.rt v) σ2
            | .exc x σ2 => .exc x σ2
            | .stuck => .stuck) = _
        rw [e1]
        simp only [e2.1]
      rw [e]
      exact h3
end E3

namespace E3
open PySem PySem.Spec PyProof.Rows L2
theorem negI (i : Int) : negD (.int i) = .ok (.int (-i)) := rfl
theorem powL {i j : Int} (h : decide (0 ≤ j ∧ j ≤ 1000000 ∧ i.natAbs < 2 ^ 64) = true) : powD (.int i) (.int j) = .ok (.int (i ^ j.toNat)) := powI h
theorem mulLL {i j : Int} (h : decide (i.natAbs < 2 ^ 200 ∧ j.natAbs < 2 ^ 200) = true) : mulD (.int i) (.int j) = .ok (.int (i * j)) := by
  have := of_decide_eq_true h
  exact mulI 200 200 this.1 this.2 (by decide)
theorem mulB {i j : Int} (a b : Nat) (hi : -(2 ^ a) < i ∧ i < 2 ^ a) (hj : -(2 ^ b) < j ∧ j < 2 ^ b) (h : a + b < 1000000) : mulD (.int i) (.int j) = .ok (.int (i * j)) := by
  refine mulI a b ?_ ?_ h
  · have h1 : ((i.natAbs : Nat) : Int) < ((2 ^ a : Nat) : Int) := by push_cast; omega
    exact_mod_cast h1
  · have h1 : ((j.natAbs : Nat) : Int) < ((2 ^ b : Nat) : Int) := by push_cast; omega
    exact_mod_cast h1
local macro_rules | `(tactic| walk_at "ev") => `(tactic| try simp (disch := first | decide | decide +kernel | omega) only [fnD, startF, endF, sSeq, sAsg, sSet, sSetV, sAsgV, sIf, sRet, sNew, sNewV, sMut, sMutV, sFor, sForR, sFreeze, sNil, sExpr, optK, thenR_ok, thenR_exc, thenR_stuck,
  view, mask, E3.eVar_zero, E3.eVar_succ, eC, e1, e2, eCall, eTup, eLst, eSl, oNone, oSome, eAnd, eOr, eIf, E3.tAnd, E3.tOr, E3.tNot, E3.tB, asB, notD, aNil, aCons, Res.bind_ok, Res.bind_exc, Res.bind_stuck,
  gT, gsCons, gsNil, gN, tupD, lstD, Slot.dat, Slot.shd, List.length_cons, List.length_nil, List.map_cons, List.map_nil, List.replicate, List.append_nil, List.cons_append, List.nil_append, Option.map_some, Option.map_none, Option.bind_some, Option.bind_none,
  List.getElem?_cons_zero, List.getElem?_cons_succ, List.set_cons_zero, List.set_cons_succ, Nat.reduceAdd, Nat.reduceSub, Nat.reduceEqDiff, if_true, if_false, ite_true, ite_false, reduceIte, decide_true, decide_false, reduceCtorEq, Bool.not_true, Bool.not_false, Bool.false_eq_true, Bool.true_eq_false, Bool.or_true, Bool.true_or, Bool.false_or, Bool.or_false, Bool.and_true, Bool.and_false, Bool.true_and, Bool.false_and, addI, subI, ltI, leI, gtI, geI, eqI, neI, negI, ix_cell0, ix_cell1, E3.le0, E3.le1, E3.le2, E3.le3, E3.le4, E3.le5, E3.le6, beq_self_eq_true, divmodI, modI, fdivI, powL, mulLL])
theorem rng1_nat {m : Int} (h : 0 ≤ m) (k : m ≤ 100000) : rng1 [.int m] = .ok ((List.range m.toNat).map fun k : Nat => PyData.int (k : Nat)) := by
  have e : rng1 [.int m] = .ok (rangeD 0 m) := by
    show (if _ then _ else _) = _
    rw [if_pos ⟨by omega, by omega⟩]
  rw [e]
  unfold rangeD
  simp
def deal2B : SF := (sSeq (sSet 2 (e2 modD (e2 mulD (e2 addD (e2 addD (e2 addD (eVar 2) (e2 mulD (e2 mulD (eC (.int 15)) (eVar 4)) (eVar 4))) (e2 mulD (eC (.int 31)) (eVar 1))) (eC (.int 11))) (eC (.int 48271))) (eC (.int 2147483647))))
  (sSeq (sSet 2 (e2 modD (e2 mulD (eVar 2) (eVar 2)) (eC (.int 2147483629))))
  (sSet 3 (e2 addD (e2 mulD (eVar 3) (eC (.int 998244353))) (e2 fdivD (e2 modD (e2 mulD (eVar 2) (eC (.int 69621))) (eC (.int 2147483587))) (eC (.int 7)))))))
def lawDeal2 : List D → Res D := fnD 5 2 (sSeq (sIf (tB (e2 geD (eVar 0) (e2 powD (eC (.int 10)) (eC (.int 18))))) (sRet (e2 subD (eVar 0) (e2 powD (eC (.int 10)) (eC (.int 18))))) sNil)
  (sSeq (sSet 2 (e2 modD (eVar 0) (eC (.int 2147483629))))
  (sSeq (sSet 3 (eC (.int 0)))
  (sSeq (sFor (fun σ => ((aCons (eC (.int 24)) aNil) σ).bind rng1) (gN 4) deal2B)
  (sRet (eVar 3))))))
theorem deal2_turn (c s one number : Int) (k : Nat) (b : Nat) (hs : 0 ≤ s ∧ s < 100) (hk : k < 24) (ho : 0 ≤ one ∧ one < 2147483647) (hn : 0 ≤ number ∧ number < 2 ^ b) (hb : b + 32 < 999990) :
    ∃ one' number' : Int, (0 ≤ one' ∧ one' < 2147483647) ∧ (0 ≤ number' ∧ number' < 2 ^ (b + 32)) ∧
      deal2B [some (.sh (.int c)), some (.sh (.int s)), some (.sh (.int one)), some (.sh (.int number)), some (.sh (.int (k : Nat)))]
        = .ok .nx [some (.sh (.int c)), some (.sh (.int s)), some (.sh (.int one')), some (.sh (.int number')), some (.sh (.int (k : Nat)))] := by
  have hkI : (0 : Int) ≤ (k : Nat) ∧ ((k : Nat) : Int) < 24 := by omega
  generalize ((k : Nat) : Int) = j at hkI ⊢
  unfold deal2B
  walk_at "ev"
  rw [mulB 8 8 (by omega) (by omega) (by decide)]
  walk_at "ev"
  have h15 : 0 ≤ 15 * j ∧ 15 * j < 360 := by omega
  rw [mulB 16 8 (by omega) (by omega) (by decide)]
  walk_at "ev"
  rw [mulB 8 8 (by omega) (by omega) (by decide)]
  walk_at "ev"
  have hq : 0 ≤ 15 * j * j ∧ 15 * j * j < 9000 := by
    have h1 : 0 ≤ 15 * j * j := Int.mul_nonneg h15.1 hkI.1
    have h2 : 15 * j * j ≤ 15 * j * 24 := Int.mul_le_mul_of_nonneg_left (by omega) h15.1
    omega
  generalize 15 * j * j = q at hq ⊢
  rw [mulB 40 20 (by omega) (by omega) (by decide)]
  walk_at "ev"
  have hm : 0 ≤ (one + q + 31 * s + 11) * 48271 % 2147483647 ∧ (one + q + 31 * s + 11) * 48271 % 2147483647 < 2147483647 := ⟨Int.emod_nonneg _ (by decide), Int.emod_lt_of_pos _ (by decide)⟩
  generalize (one + q + 31 * s + 11) * 48271 % 2147483647 = o at hm ⊢
  rw [mulB 32 32 (by omega) (by omega) (by decide)]
  walk_at "ev"
  have hm2 : 0 ≤ o * o % 2147483629 ∧ o * o % 2147483629 < 2147483629 := ⟨Int.emod_nonneg _ (by decide), Int.emod_lt_of_pos _ (by decide)⟩
  generalize o * o % 2147483629 = t at hm2 ⊢
  have hp : (0 : Int) < 2 ^ b := Int.pow_pos (by decide)
  rw [mulB b 32 (by omega) (by omega) (by omega)]
  walk_at "ev"
  rw [mulB 32 20 (by omega) (by omega) (by decide)]
  walk_at "ev"
  have hm3 : 0 ≤ t * 69621 % 2147483587 / 7 ∧ t * 69621 % 2147483587 / 7 < 2147483587 := by
    have h1 : 0 ≤ t * 69621 % 2147483587 := Int.emod_nonneg _ (by decide)
    have h2 : t * 69621 % 2147483587 < 2147483587 := Int.emod_lt_of_pos _ (by decide)
    omega
  generalize t * 69621 % 2147483587 / 7 = u at hm3 ⊢
  refine ⟨t, number * 998244353 + u, by omega, ⟨by omega, ?_⟩, rfl⟩
  have e : (2 : Int) ^ (b + 32) = 2 ^ b * 4294967296 := by rw [Int.pow_add]; rfl
  omega
theorem deal2_ok (c s : Int) (hs : 0 ≤ s ∧ s < 100) : ∃ n : Int, 0 ≤ n ∧ lawDeal2 [.int c, .int s] = .ok (.int n) := by
  by_cases hc : (1000000000000000000 : Int) ≤ c
  · refine ⟨c - 10 ^ 18, by omega, ?_⟩
    unfold lawDeal2
    walk_at "ev"
    have e : decide ((10 : Int) ^ Int.toNat 18 ≤ c) = true := decide_eq_true (by show (10 : Int) ^ 18 ≤ c; omega)
    rw [e]
    walk_at "ev"
    rfl
  · obtain ⟨σ', e, one', number', x4, _, hn, rfl⟩ := forS_pre (p := gN 4) (body := deal2B) (g := fun k : Nat => PyData.int (k : Nat))
      (Inv := fun pre σ => ∃ (one number : Int) (x4 : Option Slot), (0 ≤ one ∧ one < 2147483647) ∧ (0 ≤ number ∧ number < 2 ^ (32 * pre.length)) ∧
        σ = [some (.sh (.int c)), some (.sh (.int s)), some (.sh (.int one)), some (.sh (.int number)), x4]) (List.range 24)
      [some (.sh (.int c)), some (.sh (.int s)), some (.sh (.int (c % 2147483629))), some (.sh (.int 0)), none]
      ⟨_, 0, none, ⟨Int.emod_nonneg _ (by decide), by have := Int.emod_lt_of_pos c (show (0 : Int) < 2147483629 by decide); omega⟩, ⟨by omega, by decide⟩, rfl⟩ (by
      rintro pre k post σ he ⟨one, number, x4, ho, hn, rfl⟩
      have hk : k < 24 := List.mem_range.mp (by rw [he]; simp)
      have hl : pre.length < 24 := by
        have := congrArg List.length he
        rw [List.length_range, List.length_append, List.length_cons] at this
        omega
      obtain ⟨one', number', h1, h2, h3⟩ := deal2_turn c s one number k (32 * pre.length) hs hk ho hn (by omega)
      refine ⟨_, _, rfl, .inl h3, one', number', some (.sh (.int (k : Nat))), h1, ⟨h2.1, ?_⟩, rfl⟩
      rw [List.length_append, List.length_singleton, Nat.mul_add, Nat.mul_one]
      exact h2.2)
    refine ⟨number', hn.1, ?_⟩
    unfold lawDeal2
    walk_at "ev"
    have e1 : decide ((10 : Int) ^ Int.toNat 18 ≤ c) = false := decide_eq_false (by show ¬ (10 : Int) ^ 18 ≤ c; omega)
    rw [e1]
    walk_at "ev"
    rw [rng1_nat (by decide) (by decide)]
    walk_at "ev"
    rw [show Int.toNat 24 = 24 from rfl, e]
    walk_at "ev"
end E3

namespace E3
open PySem PySem.Spec PyProof.Rows L2
local macro_rules | `(tactic| walk_at "ev") => `(tactic| try simp (disch := first | decide | decide +kernel | omega) only [fnD, startF, endF, sSeq, sAsg, sSet, sSetV, sAsgV, sIf, sRet, sNew, sNewV, sMut, sMutV, sFor, sForR, sFreeze, sNil, sExpr, optK, thenR_ok, thenR_exc, thenR_stuck,
  view, mask, E3.eVar_zero, E3.eVar_succ, eC, e1, e2, eCall, eTup, eLst, eSl, oNone, oSome, eAnd, eOr, eIf, E3.tAnd, E3.tOr, E3.tNot, E3.tB, asB, notD, aNil, aCons, Res.bind_ok, Res.bind_exc, Res.bind_stuck,
  gT, gsCons, gsNil, gN, tupD, lstD, Slot.dat, Slot.shd, List.length_cons, List.length_nil, List.map_cons, List.map_nil, List.replicate, List.append_nil, List.cons_append, List.nil_append, Option.map_some, Option.map_none, Option.bind_some, Option.bind_none,
  List.getElem?_cons_zero, List.getElem?_cons_succ, List.set_cons_zero, List.set_cons_succ, Nat.reduceAdd, Nat.reduceSub, Nat.reduceEqDiff, if_true, if_false, ite_true, ite_false, reduceIte, decide_true, decide_false, reduceCtorEq, Bool.not_true, Bool.not_false, Bool.false_eq_true, Bool.true_eq_false, Bool.or_true, Bool.true_or, Bool.false_or, Bool.or_false, Bool.and_true, Bool.and_false, Bool.true_and, Bool.false_and, addI, subI, ltI, leI, gtI, geI, eqI, neI, negI, ix_cell0, ix_cell1, E3.le0, E3.le1, E3.le2, E3.le3, E3.le4, E3.le5, E3.le6, beq_self_eq_true, divmodI, modI, fdivI, powL, mulLL])
def SN (r : SR) (P : SS → Prop) : Prop := ∃ σ, r = .ok .nx σ ∧ P σ
theorem SN.ok {σ : SS} {P : SS → Prop} (h : P σ) : SN (.ok .nx σ) P := ⟨σ, rfl, h⟩
def ST (r : SR) (P : D → Prop) : Prop := ∃ d σ, r = .ok (.rt d) σ ∧ P d
theorem ST.ok {d : D} {σ : SS} {P : D → Prop} (h : P d) : ST (.ok (.rt d) σ) P := ⟨d, σ, rfl, h⟩
def RP (r : Res D) (P : D → Prop) : Prop := ∃ d, r = .ok d ∧ P d
theorem RP.ok {d : D} {P : D → Prop} (h : P d) : RP (.ok d) P := ⟨d, rfl, h⟩
def dctT (qs : List (Int × Int)) : List (D × D) := qs.map fun p => (cellD p, .bool true)
theorem key_cell (p : Int × Int) : keyOf (cellD p) = some (kOf p) := intsOf_map (kOf p)
theorem dct_any (qs : List (Int × Int)) (p : Int × Int) : ((dctT qs).any fun e => decide (keyOf e.1 = some (kOf p))) = decide (p ∈ qs) := by
  induction qs with
  | nil => rfl
  | cons q qs ih =>
    show (decide (keyOf (cellD q) = some (kOf p)) || (dctT qs).any _) = _
    rw [ih, key_cell]
    by_cases h : p = q
    · subst h; simp
    · have h2 : ¬ kOf q = kOf p := fun e => h (kOf_eq.mp e).symm
      simp [h, h2]
theorem put_dct (qs : List (Int × Int)) (p : Int × Int) : putKD (dctT qs) (kOf p) (.bool true) = dctT (if p ∈ qs then qs else qs ++ [p]) := by
  unfold putKD
  rw [dct_any]
  by_cases h : p ∈ qs
  · rw [if_pos (decide_eq_true h), if_pos h]
    unfold dctT
    rw [List.map_map]
    apply List.map_congr_left
    intro q _
    show (if keyOf (cellD q) = some (kOf p) then (cellD q, PyData.bool true) else (cellD q, PyData.bool true)) = _
    split <;> rfl
  · rw [if_neg (by simpa using h), if_neg h]
    unfold dctT
    rw [List.map_append]; rfl
theorem dct_len (qs : List (Int × Int)) : (dctT qs).length = qs.length := List.length_map ..
def addC (qs : List (Int × Int)) (p : Int × Int) : List (Int × Int) := if p ∈ qs then qs else qs ++ [p]
theorem mem_addC {qs : List (Int × Int)} {p q : Int × Int} : q ∈ addC qs p ↔ q ∈ qs ∨ q = p := by
  unfold addC
  split
  · rename_i h
    exact ⟨.inl, fun z => z.elim id fun e => e ▸ h⟩
  · simp
theorem nd_addC {qs : List (Int × Int)} {p : Int × Int} (h : qs.Nodup) : (addC qs p).Nodup := by
  unfold addC
  split
  · exact h
  · rename_i hp
    exact List.nodup_append.mpr ⟨h, by simp, fun a ha b hb e => hp (by rw [List.mem_singleton.mp hb] at e; rw [← e]; exact ha)⟩
theorem len_addC (qs : List (Int × Int)) (p : Int × Int) : (addC qs p).length ≤ qs.length + 1 := by
  unfold addC
  split
  · omega
  · rw [List.length_append, List.length_singleton]; omega
theorem addC_ne (qs : List (Int × Int)) (p : Int × Int) : addC qs p ≠ [] := fun e => by
  have : p ∈ addC qs p := mem_addC.mpr (.inr rfl)
  rw [e] at this; cases this
theorem putS_dct {j : Nat} {σ : SS} {qs : List (Int × Int)} {p : Int × Int} (h : qs.length < sizeLine) : putS j σ (dctT qs) (cellD p) (.bool true) = .ok .nx (σ.set j (some (.ow (.dict (dctT (addC qs p)))))) := by
  unfold putS
  simp only [key_cell]
  rw [if_pos (by rw [dct_len]; exact h), put_dct]
  rfl
theorem SN_put {j : Nat} {σ : SS} {qs : List (Int × Int)} {a b : Int} {P : SS → Prop} (h : qs.length < sizeLine) (k : P (σ.set j (some (.ow (.dict (dctT (addC qs (a, b)))))))) : SN (putS j σ (dctT qs) (.tuple [.int a, .int b]) (.bool true)) P :=
  ⟨_, putS_dct (p := (a, b)) h, k⟩
theorem sortL_srt {qs : List (Int × Int)} (hn : qs.Nodup) : sortL (qs.map cellD) = (srt qs).map cellD := by
  rw [← srt_cells, dd_nodup (kOf_nodup hn), cells_enc, sortL_enc]
theorem sort_dct {qs : List (Int × Int)} (hn : qs.Nodup) : sortAnyD [.dict (dctT qs)] = .ok (.list ((srt qs).map cellD)) := by
  have h1 : (dctT qs).all keyNE = true := List.all_eq_true.mpr fun e he => by
    obtain ⟨p, _, rfl⟩ := List.mem_map.mp he; rfl
  have h2 : (dctT qs).map (·.1) = qs.map cellD := by unfold dctT; rw [List.map_map]; rfl
  show (if (dctT qs).all keyNE = true then Res.ok (PyData.list (sortL ((dctT qs).map (·.1)))) else .stuck) = _
  rw [if_pos h1, h2, sortL_srt hn]
theorem sort_perm (ps : List (Int × Int)) (hl : ps.length ≤ sizeLine) : ∃ qs : List (Int × Int), sortedD [.list (ps.map cellD)] = .ok (.list (qs.map cellD)) ∧ qs.Perm ps := by
  have ok : sortOk (ps.map cellD) = true := by
    unfold sortOk
    have a1 : ((ps.map cellD).all fun d => (ps.map cellD).all fun e => PySem.W.alike d e) = true := List.all_eq_true.mpr fun d hd => List.all_eq_true.mpr fun e he => by
      obtain ⟨p, _, rfl⟩ := List.mem_map.mp hd
      obtain ⟨q, _, rfl⟩ := List.mem_map.mp he
      exact alike_encK (kOf p) (kOf q)
    have a2 : (ps.map cellD).all isTupNE = true := List.all_eq_true.mpr fun d hd => by
      obtain ⟨p, _, rfl⟩ := List.mem_map.mp hd; rfl
    have a3 := lay_cells ps
    have a4 : PyData.depthAll (ps.map cellD) ≤ 64 := Nat.le_trans (deep_cells ps) (by decide)
    rw [a1, a2, a3, decide_eq_true a4, decide_eq_true (by rw [List.length_map]; exact hl)]; rfl
  refine ⟨(riseK (ps.map kOf)).map pOf, ?_, ?_⟩
  · show (if sortOk (ps.map cellD) = true then Res.ok (PyData.list (sortL (ps.map cellD))) else .stuck) = _
    rw [if_pos ok, cells_enc, sortL_enc]
    congr 2
    rw [List.map_map]
    apply List.map_congr_left
    intro k hk
    obtain ⟨p, _, rfl⟩ := List.mem_map.mp ((riseK_perm _).mem_iff.mp hk)
    rfl
  · have := (riseK_perm (ps.map kOf)).map pOf
    rw [List.map_map] at this
    have e : ps.map (pOf ∘ kOf) = ps := by
      conv => rhs; rw [← List.map_id ps]
      rfl
    rwa [e] at this
def pieceB : SF := (sSeq (sAsg (gT 2 (gsCons (gN 0) (gsCons (gN 5) gsNil))) (eCall divmodD (aCons (eVar 0) (aCons (eC (.int 25)) aNil))))
  (sSeq (sSet 6 (eTup (aCons (e2 subD (e2 fdivD (eVar 5) (eC (.int 5))) (eC (.int 2))) (aCons (e2 subD (e2 modD (eVar 5) (eC (.int 5))) (eC (.int 2))) aNil))))
  (sSeq (sIf (tB (e2 eqD (eVar 1) (eC (.int 1)))) (sSeq (sAsg (gT 2 (gsCons (gN 0) (gsCons (gN 7) gsNil))) (eCall divmodD (aCons (eVar 0) (aCons (e2 addD (e2 mulD (eC (.int 2)) (e2 powD (eC (.int 10)) (eC (.int 6)))) (eC (.int 1))) aNil))))
  (sSeq (sAsg (gT 2 (gsCons (gN 0) (gsCons (gN 8) gsNil))) (eCall divmodD (aCons (eVar 0) (aCons (e2 addD (e2 mulD (eC (.int 2)) (e2 powD (eC (.int 10)) (eC (.int 6)))) (eC (.int 1))) aNil))))
  (sSet 6 (eTup (aCons (e2 subD (eVar 7) (e2 powD (eC (.int 10)) (eC (.int 6)))) (aCons (e2 subD (eVar 8) (e2 powD (eC (.int 10)) (eC (.int 6)))) aNil)))))) sNil)
  (sPut 3 (eVar 6) (eC (.bool true))))))
def pieceT : SF := (sSeq (sFor (fun σ => ((aCons (e2 addD (eC (.int 1)) (eVar 2)) aNil) σ).bind rng1) (gN 4) pieceB)
  (sFreeze 3 (sRet (eTup (aCons (eCall tupleD (aCons (eCall sortAnyD (aCons (eVar 3) aNil)) aNil)) (aCons (eVar 0) aNil))))))
def lawPiece : List D → Res D := fnD 9 1 (sSeq (sAsg (gT 2 (gsCons (gN 0) (gsCons (gN 1) gsNil))) (eCall divmodD (aCons (eVar 0) (aCons (eC (.int 8)) aNil))))
  (sSeq (sAsg (gT 2 (gsCons (gN 0) (gsCons (gN 2) gsNil))) (eCall divmodD (aCons (eVar 0) (aCons (eC (.int 5)) aNil))))
  (sSeq (sIf (tB (e2 eqD (eVar 1) (eC (.int 0)))) (sAsg (gT 2 (gsCons (gN 0) (gsCons (gN 2) gsNil))) (eCall divmodD (aCons (eVar 0) (aCons (eC (.int 12)) aNil)))) sNil)
  (sSeq (sNew 3 (eC (.dict []))) pieceT))))
def inM (p : Int × Int) : Prop := (-1000000 ≤ p.1 ∧ p.1 ≤ 1000000) ∧ (-1000000 ≤ p.2 ∧ p.2 ≤ 1000000)
theorem piece_turn (n w : Int) (x2 x4 x5 x6 x7 x8 : Option Slot) (qs : List (Int × Int)) (hn : 0 ≤ n) (hl : qs.length < 1000) :
    SN (pieceB [some (.sh (.int n)), some (.sh (.int w)), x2, some (.ow (.dict (dctT qs))), x4, x5, x6, x7, x8]) fun σ' => ∃ (n' : Int) (p : Int × Int) (y5 y6 y7 y8 : Option Slot), 0 ≤ n' ∧ inM p ∧
      σ' = [some (.sh (.int n')), some (.sh (.int w)), x2, some (.ow (.dict (dctT (addC qs p)))), x4, y5, y6, y7, y8] := by
  have hls : qs.length < sizeLine := Nat.lt_trans hl (by decide)
  by_cases hw : w = 1
  · subst hw
    have h1 : 0 ≤ n / 25 := Int.ediv_nonneg hn (by decide)
    have h2 : 0 ≤ n / 25 / (2 * 10 ^ 6 + 1) := Int.ediv_nonneg h1 (by decide)
    have h3 : 0 ≤ n / 25 / (2 * 10 ^ 6 + 1) / (2 * 10 ^ 6 + 1) := Int.ediv_nonneg h2 (by decide)
    have r1 := Int.emod_nonneg (n / 25) (show (2 * 10 ^ 6 + 1 : Int) ≠ 0 by decide)
    have r2 := Int.emod_lt_of_pos (n / 25) (show (0 : Int) < 2 * 10 ^ 6 + 1 by decide)
    have r3 := Int.emod_nonneg (n / 25 / (2 * 10 ^ 6 + 1)) (show (2 * 10 ^ 6 + 1 : Int) ≠ 0 by decide)
    have r4 := Int.emod_lt_of_pos (n / 25 / (2 * 10 ^ 6 + 1)) (show (0 : Int) < 2 * 10 ^ 6 + 1 by decide)
    unfold pieceB
    walk_at "ev"
    simp only [sPut, ownD, List.getElem?_cons_zero, List.getElem?_cons_succ]
    walk_at "ev"
    refine SN_put hls ?_
    exact ⟨_, (n / 25 % (2 * 10 ^ 6 + 1) - 10 ^ 6, n / 25 / (2 * 10 ^ 6 + 1) % (2 * 10 ^ 6 + 1) - 10 ^ 6), _, _, _, _, h3, ⟨⟨by show _ ≤ _ - _; omega, by show _ - _ ≤ _; omega⟩, ⟨by show _ ≤ _ - _; omega, by show _ - _ ≤ _; omega⟩⟩, rfl⟩
  · have h1 : 0 ≤ n / 25 := Int.ediv_nonneg hn (by decide)
    have hb : (w == 1) = false := by simpa using hw
    unfold pieceB
    walk_at "ev"
    rw [hb]
    simp only [sPut, ownD, List.getElem?_cons_zero, List.getElem?_cons_succ]
    walk_at "ev"
    refine SN_put hls ?_
    exact ⟨n / 25, (n % 25 / 5 - 2, n % 25 % 5 - 2), _, _, x7, x8, h1, ⟨⟨by show _ ≤ _ - _; omega, by show _ - _ ≤ _; omega⟩, ⟨by show _ ≤ _ - _; omega, by show _ - _ ≤ _; omega⟩⟩, rfl⟩
def tupC (ps : List (Int × Int)) : D := .tuple (ps.map cellD)
theorem piece_ok (n : Int) (hn : 0 ≤ n) : ∃ (ps : List (Int × Int)) (n' : Int), 0 ≤ n' ∧ ps ≠ [] ∧ ps.length ≤ 12 ∧ ps.Pairwise ltP ∧ (∀ p ∈ ps, inM p) ∧ lawPiece [.int n] = .ok (.tuple [tupC ps, .int n']) := by
  -- the loop
  have loop : ∀ (n w m : Int), 0 ≤ n → 0 ≤ m → m < 12 → ST (pieceT [some (.sh (.int n)), some (.sh (.int w)), some (.sh (.int m)), some (.ow (.dict [])), none, none, none, none, none]) fun d =>
      ∃ (ps : List (Int × Int)) (n' : Int), 0 ≤ n' ∧ ps ≠ [] ∧ ps.length ≤ 12 ∧ ps.Pairwise ltP ∧ (∀ p ∈ ps, inM p) ∧ d = .tuple [tupC ps, .int n'] := by
    intro n w m hn h0 h1
    obtain ⟨σ', e, n', qs, x4, x5, x6, x7, x8, hn', hne, hl, hnd, hin, rfl⟩ := forS_pre (p := gN 4) (body := pieceB) (g := fun k : Nat => PyData.int (k : Nat))
      (Inv := fun pre σ => ∃ (n' : Int) (qs : List (Int × Int)) (x4 x5 x6 x7 x8 : Option Slot), 0 ≤ n' ∧ (pre ≠ [] → qs ≠ []) ∧ qs.length ≤ pre.length ∧ qs.Nodup ∧ (∀ p ∈ qs, inM p) ∧
        σ = [some (.sh (.int n')), some (.sh (.int w)), some (.sh (.int m)), some (.ow (.dict (dctT qs))), x4, x5, x6, x7, x8]) (List.range (1 + m).toNat)
      [some (.sh (.int n)), some (.sh (.int w)), some (.sh (.int m)), some (.ow (.dict [])), none, none, none, none, none]
      ⟨n, [], none, none, none, none, none, hn, fun z => absurd rfl z, Nat.le_refl _, List.nodup_nil, (fun _ z => nomatch z), rfl⟩ (by
      rintro pre k post σ he ⟨n', qs, x4, x5, x6, x7, x8, hn', hne, hl, hnd, hin, rfl⟩
      have hl2 : pre.length < 12 := by
        have := congrArg List.length he
        rw [List.length_range, List.length_append, List.length_cons] at this
        omega
      obtain ⟨_, g3, n2, p, y5, y6, y7, y8, g1, g2, rfl⟩ := piece_turn n' w (some (.sh (.int m))) (some (.sh (.int (k : Nat)))) x5 x6 x7 x8 qs hn' (by omega)
      refine ⟨_, _, rfl, .inl g3, n2, addC qs p, _, y5, y6, y7, y8, g1, fun _ => addC_ne _ _, ?_, nd_addC hnd, fun q hq => ?_, rfl⟩
      · rw [List.length_append, List.length_singleton]
        exact Nat.le_trans (len_addC _ _) (by omega)
      · rcases mem_addC.mp hq with z | z
        · exact hin q z
        · rw [z]; exact g2)
    rw [List.length_range] at hl
    have hne' : qs ≠ [] := hne (by
      intro z
      have := congrArg List.length z
      rw [List.length_range, List.length_nil] at this
      omega)
    unfold pieceT
    walk_at "ev"
    rw [rng1_nat (by omega) (by omega)]
    walk_at "ev"
    rw [e]
    walk_at "ev"
    rw [sort_dct hnd]
    walk_at "ev"
    refine ST.ok ⟨srt qs, n', hn', ?_, ?_, pw_srt _, fun p hp => hin p (mem_srt.mp hp), rfl⟩
    · intro z
      cases qs with
      | nil => exact hne' rfl
      | cons q qs =>
        have : q ∈ srt (q :: qs) := mem_srt.mpr List.mem_cons_self
        rw [z] at this; cases this
    · exact Nat.le_trans (srt_len _) (by omega)
  have h8 : 0 ≤ n / 8 := Int.ediv_nonneg hn (by decide)
  have h5 : 0 ≤ n / 8 / 5 := Int.ediv_nonneg h8 (by decide)
  have h12 : 0 ≤ n / 8 / 5 / 12 := Int.ediv_nonneg h5 (by decide)
  by_cases hw : n % 8 = 0
  · obtain ⟨_, _, a6, ps, n', a1, a2, a3, a4, a5, rfl⟩ := loop (n / 8 / 5 / 12) (n % 8) (n / 8 / 5 % 12) h12 (Int.emod_nonneg _ (by decide)) (Int.emod_lt_of_pos _ (by decide))
    refine ⟨ps, n', a1, a2, a3, a4, a5, ?_⟩
    have hb : (n % 8 == 0) = true := by simpa using hw
    unfold lawPiece
    walk_at "ev"
    rw [hb]
    walk_at "ev"
    rw [a6]
  · obtain ⟨_, _, a6, ps, n', a1, a2, a3, a4, a5, rfl⟩ := loop (n / 8 / 5) (n % 8) (n / 8 % 5) h5 (Int.emod_nonneg _ (by decide)) (by have := Int.emod_lt_of_pos (n / 8) (show (0 : Int) < 5 by decide); omega)
    refine ⟨ps, n', a1, a2, a3, a4, a5, ?_⟩
    have hb : (n % 8 == 0) = false := by simpa using hw
    unfold lawPiece
    walk_at "ev"
    rw [hb]
    walk_at "ev"
    rw [a6]
end E3

namespace E3
open PySem PySem.Spec PyProof.Rows L2
theorem isi_bool_none  : isiD "bool" .none = .ok (.bool false) := rfl
theorem isi_bool_bool (b : Bool) : isiD "bool" (.bool b) = .ok (.bool true) := rfl
theorem isi_bool_int (i : Int) : isiD "bool" (.int i) = .ok (.bool false) := rfl
theorem isi_bool_str (x : Str) : isiD "bool" (.str x) = .ok (.bool false) := rfl
theorem isi_bool_list (xs : List D) : isiD "bool" (.list xs) = .ok (.bool false) := rfl
theorem isi_bool_tuple (xs : List D) : isiD "bool" (.tuple xs) = .ok (.bool false) := rfl
theorem isi_int_none  : isiD "int" .none = .ok (.bool false) := rfl
theorem isi_int_bool (b : Bool) : isiD "int" (.bool b) = .ok (.bool true) := rfl
theorem isi_int_int (i : Int) : isiD "int" (.int i) = .ok (.bool true) := rfl
theorem isi_int_str (x : Str) : isiD "int" (.str x) = .ok (.bool false) := rfl
theorem isi_int_list (xs : List D) : isiD "int" (.list xs) = .ok (.bool false) := rfl
theorem isi_int_tuple (xs : List D) : isiD "int" (.tuple xs) = .ok (.bool false) := rfl
theorem isi_str_none  : isiD "str" .none = .ok (.bool false) := rfl
theorem isi_str_bool (b : Bool) : isiD "str" (.bool b) = .ok (.bool false) := rfl
theorem isi_str_int (i : Int) : isiD "str" (.int i) = .ok (.bool false) := rfl
theorem isi_str_str (x : Str) : isiD "str" (.str x) = .ok (.bool true) := rfl
theorem isi_str_list (xs : List D) : isiD "str" (.list xs) = .ok (.bool false) := rfl
theorem isi_str_tuple (xs : List D) : isiD "str" (.tuple xs) = .ok (.bool false) := rfl
theorem isi_list_none  : isiD "list" .none = .ok (.bool false) := rfl
theorem isi_list_bool (b : Bool) : isiD "list" (.bool b) = .ok (.bool false) := rfl
theorem isi_list_int (i : Int) : isiD "list" (.int i) = .ok (.bool false) := rfl
theorem isi_list_str (x : Str) : isiD "list" (.str x) = .ok (.bool false) := rfl
theorem isi_list_list (xs : List D) : isiD "list" (.list xs) = .ok (.bool true) := rfl
theorem isi_list_tuple (xs : List D) : isiD "list" (.tuple xs) = .ok (.bool false) := rfl
theorem isi_tuple_none  : isiD "tuple" .none = .ok (.bool false) := rfl
theorem isi_tuple_bool (b : Bool) : isiD "tuple" (.bool b) = .ok (.bool false) := rfl
theorem isi_tuple_int (i : Int) : isiD "tuple" (.int i) = .ok (.bool false) := rfl
theorem isi_tuple_str (x : Str) : isiD "tuple" (.str x) = .ok (.bool false) := rfl
theorem isi_tuple_list (xs : List D) : isiD "tuple" (.list xs) = .ok (.bool false) := rfl
theorem isi_tuple_tuple (xs : List D) : isiD "tuple" (.tuple xs) = .ok (.bool true) := rfl
theorem isN_none  : isND .none .none = .ok (.bool true) := rfl
theorem ntN_none  : notND .none .none = .ok (.bool false) := rfl
theorem isN_bool (b : Bool) : isND (.bool b) .none = .ok (.bool false) := rfl
theorem ntN_bool (b : Bool) : notND (.bool b) .none = .ok (.bool true) := rfl
theorem isN_int (i : Int) : isND (.int i) .none = .ok (.bool false) := rfl
theorem ntN_int (i : Int) : notND (.int i) .none = .ok (.bool true) := rfl
theorem isN_str (x : Str) : isND (.str x) .none = .ok (.bool false) := rfl
theorem ntN_str (x : Str) : notND (.str x) .none = .ok (.bool true) := rfl
theorem isN_list (xs : List D) : isND (.list xs) .none = .ok (.bool false) := rfl
theorem ntN_list (xs : List D) : notND (.list xs) .none = .ok (.bool true) := rfl
theorem isN_tuple (xs : List D) : isND (.tuple xs) .none = .ok (.bool false) := rfl
theorem ntN_tuple (xs : List D) : notND (.tuple xs) .none = .ok (.bool true) := rfl
theorem len_list (xs : List D) : lenD [.list xs] = .ok (.int xs.length) := rfl
theorem len_tup (xs : List D) : lenD [.tuple xs] = .ok (.int xs.length) := rfl
theorem seq_list (xs : List D) : seqOf (.list xs) = .ok xs := rfl
theorem seq_tup (xs : List D) : seqOf (.tuple xs) = .ok xs := rfl
theorem tup_list (xs : List D) : tupleD [.list xs] = .ok (.tuple xs) := rfl
theorem tup_tup (xs : List D) : tupleD [.tuple xs] = .ok (.tuple xs) := rfl
theorem lst_list (xs : List D) : listD [.list xs] = .ok (.list xs) := rfl
theorem lst_tup (xs : List D) : listD [.tuple xs] = .ok (.list xs) := rfl
local macro_rules | `(tactic| walk_at "ev") => `(tactic| try simp (disch := first | decide | decide +kernel | omega) only [fnD, startF, endF, sSeq, sAsg, sSet, sSetV, sAsgV, sIf, sRet, sNew, sNewV, sMut, sMutV, sFor, sForR, sFreeze, sNil, sExpr, optK, thenR_ok, thenR_exc, thenR_stuck,
  view, mask, E3.eVar_zero, E3.eVar_succ, eC, e1, e2, eCall, eTup, eLst, eSl, oNone, oSome, eAnd, eOr, eIf, E3.tAnd, E3.tOr, E3.tNot, E3.tB, asB, notD, aNil, aCons, Res.bind_ok, Res.bind_exc, Res.bind_stuck,
  gT, gsCons, gsNil, gN, tupD, lstD, Slot.dat, Slot.shd, List.length_cons, List.length_nil, List.map_cons, List.map_nil, List.replicate, List.append_nil, List.cons_append, List.nil_append, Option.map_some, Option.map_none, Option.bind_some, Option.bind_none,
  List.getElem?_cons_zero, List.getElem?_cons_succ, List.set_cons_zero, List.set_cons_succ, Nat.reduceAdd, Nat.reduceSub, Nat.reduceEqDiff, if_true, if_false, ite_true, ite_false, reduceIte, decide_true, decide_false, reduceCtorEq, Bool.not_true, Bool.not_false, Bool.false_eq_true, Bool.true_eq_false, Bool.or_true, Bool.true_or, Bool.false_or, Bool.or_false, Bool.and_true, Bool.and_false, Bool.true_and, Bool.false_and, addI, subI, ltI, leI, gtI, geI, eqI, neI, negI, ix_cell0, ix_cell1, E3.le0, E3.le1, E3.le2, E3.le3, E3.le4, E3.le5, E3.le6, beq_self_eq_true, divmodI, modI, fdivI, powL, mulLL, isi_bool_none, isi_bool_bool, isi_bool_int, isi_bool_str, isi_bool_list, isi_bool_tuple, isi_int_none, isi_int_bool, isi_int_int, isi_int_str, isi_int_list, isi_int_tuple, isi_str_none, isi_str_bool, isi_str_int, isi_str_str, isi_str_list, isi_str_tuple, isi_list_none, isi_list_bool, isi_list_int, isi_list_str, isi_list_list, isi_list_tuple, isi_tuple_none, isi_tuple_bool, isi_tuple_int, isi_tuple_str, isi_tuple_list, isi_tuple_tuple, isN_none, ntN_none, isN_bool, ntN_bool, isN_int, ntN_int, isN_str, ntN_str, isN_list, ntN_list, isN_tuple, ntN_tuple, len_list, len_tup, seq_list, seq_tup, tup_list, tup_tup, lst_list, lst_tup])
def lawSame : Nat → List D → Res D
  | 0 => fnD 4 2 sStuck
  | n + 1 => fnD 4 2 (sSeq (sIf (tB (e2 isND (eVar 1) (eC .none))) (sRet (e2 isND (eVar 0) (eC .none))) sNil)
  (sSeq (sIf (E3.tB (e1 (isiD "bool") (eVar 1))) (sRet (eAnd (e1 (isiD "bool") (eVar 0)) (e2 eqD (eVar 0) (eVar 1)))) sNil)
  (sSeq (sIf (E3.tB (e1 (isiD "int") (eVar 1))) (sRet (eAnd (e1 (isiD "int") (eVar 0)) (eAnd (e1 notD (e1 (isiD "bool") (eVar 0))) (e2 eqD (eVar 0) (eVar 1))))) sNil)
  (sSeq (sIf (E3.tB (e1 (isiD "str") (eVar 1))) (sRet (eAnd (e1 (isiD "str") (eVar 0)) (e2 eqD (eVar 0) (eVar 1)))) sNil)
  (sSeq (sIf (E3.tOr (E3.tAnd (E3.tB (e1 (isiD "tuple") (eVar 1))) (E3.tNot (E3.tB (e1 (isiD "tuple") (eVar 0))))) (E3.tAnd (E3.tB (e1 (isiD "list") (eVar 1))) (E3.tNot (E3.tB (e1 (isiD "list") (eVar 0)))))) (sRet (eC (.bool false))) sNil)
  (sRet (eAnd (e2 eqD (eCall lenD (aCons (eVar 0) aNil)) (eCall lenD (aCons (eVar 1) aNil))) (eCall allD (aCons (eLc (fun σ => ((aCons (eVar 0) (aCons (eVar 1) aNil)) σ).bind zipR) (gT 2 (gsCons (gN 3) (gsCons (gN 2) gsNil))) [3, 2] tYesD (eCall (lawSame n) (aCons (eVar 3) (aCons (eVar 2) aNil)))) aNil)))))))))
def good : Nat → D → Prop
  | 0, d => match d with
    | .none => True
    | .bool _ => True
    | .int _ => True
    | .str x => SeqAt.shaped (.str x) = true
    | _ => False
  | n + 1, d => match d with
    | .none => True
    | .bool _ => True
    | .int _ => True
    | .str x => SeqAt.shaped (.str x) = true
    | .tuple xs => xs.length ≤ sizeLine ∧ ∀ x ∈ xs, good n x
    | .list xs => xs.length ≤ sizeLine ∧ ∀ x ∈ xs, good n x
    | _ => False
theorem zipR_tt (xs ys : List D) : zipR [.tuple xs, .tuple ys] = .ok (zipD xs ys) := rfl
theorem zipR_ll (xs ys : List D) : zipR [.list xs, .list ys] = .ok (zipD xs ys) := rfl
theorem zip_self : ∀ xs : List D, zipD xs xs = xs.map fun d => .tuple [d, d]
  | [] => rfl
  | x :: xs => by
    show _ :: zipD xs xs = _
    rw [zip_self xs]; rfl
theorem allT (n : Nat) : allD [.list ((List.replicate n ()).map fun _ => PyData.bool true)] = .ok (.bool true) := by
  show overB _ _ = _
  unfold overB
  simp only [all_true]
  simp
theorem all_tr {α : Type} (xs : List α) : allD [.list (xs.map fun _ => PyData.bool true)] = .ok (.bool true) := by
  show overB _ _ = _
  unfold overB
  simp only [all_true]
  simp
theorem same_lc (n : Nat) (xs : List D) (σ : DS) (hs : σ.length = 4) (h0 : ∀ x ∈ xs, lawSame n [x, x] = .ok (.bool true)) :
    lcD (gT 2 (gsCons (gN 3) (gsCons (gN 2) gsNil))) tYesD (eCall (lawSame n) (aCons (eVar 3) (aCons (eVar 2) aNil))) (wipeD σ [3, 2]) (xs.map fun d => .tuple [d, d]) = .ok (xs.map fun _ => PyData.bool true) := by
  match σ, hs with
  | [a, b, c, d], _ =>
    refine lc_of (g := fun d => PyData.tuple [d, d]) (q := fun _ => PyData.bool true) xs fun x hx => ⟨_, rfl, rfl, ?_⟩
    show (eCall (lawSame n) (aCons (eVar 3) (aCons (eVar 2) aNil))) [_, _, some x, some x] = _
    exact h0 x hx
theorem same_refl : ∀ (n : Nat) (d : D), good n d → lawSame (n + 1) [d, d] = .ok (.bool true) := by
  have base : ∀ (n : Nat) (d : D), (d = .none ∨ (∃ b, d = .bool b) ∨ (∃ i, d = .int i) ∨ ∃ x, d = .str x ∧ SeqAt.shaped (.str x) = true) → lawSame (n + 1) [d, d] = .ok (.bool true) := by
    intro n d h
    rcases h with rfl | ⟨b, rfl⟩ | ⟨i, rfl⟩ | ⟨x, rfl, h⟩
    · unfold lawSame; walk_at "ev"
    · have e := eqD_refl (d := .bool b) (by cases b <;> rfl)
      unfold lawSame; walk_at "ev"; rw [e]; walk_at "ev"
    · unfold lawSame; walk_at "ev"
    · have e := eqD_refl (d := .str x) h
      unfold lawSame; walk_at "ev"; rw [e]; walk_at "ev"
  intro n
  induction n with
  | zero =>
    intro d h
    cases d with
    | none => exact base _ _ (.inl rfl)
    | bool b => exact base _ _ (.inr (.inl ⟨b, rfl⟩))
    | int i => exact base _ _ (.inr (.inr (.inl ⟨i, rfl⟩)))
    | str x => exact base _ _ (.inr (.inr (.inr ⟨x, rfl, h⟩)))
    | _ => exact h.elim
  | succ n ih =>
    intro d h
    cases d with
    | none => exact base _ _ (.inl rfl)
    | bool b => exact base _ _ (.inr (.inl ⟨b, rfl⟩))
    | int i => exact base _ _ (.inr (.inr (.inl ⟨i, rfl⟩)))
    | str x => exact base _ _ (.inr (.inr (.inr ⟨x, rfl, h⟩)))
    | tuple xs =>
      have e := same_lc (n + 1) xs [some (.tuple xs), some (.tuple xs), none, none] rfl fun x hx => ih x (h.2 x hx)
      unfold lawSame
      walk_at "ev"
      simp only [zipR_tt, zipR_ll, zip_self, eLc, Res.bind_ok, List.length_map, if_pos h.1, e]
      walk_at "ev"
      simp only [zipR_tt, zipR_ll, zip_self, Res.bind_ok, List.length_map, if_pos h.1, e]
      walk_at "ev"
      rw [all_tr]
      walk_at "ev"
    | list xs =>
      have e := same_lc (n + 1) xs [some (.list xs), some (.list xs), none, none] rfl fun x hx => ih x (h.2 x hx)
      unfold lawSame
      walk_at "ev"
      simp only [zipR_tt, zipR_ll, zip_self, eLc, Res.bind_ok, List.length_map, if_pos h.1, e]
      walk_at "ev"
      simp only [zipR_tt, zipR_ll, zip_self, Res.bind_ok, List.length_map, if_pos h.1, e]
      walk_at "ev"
      rw [all_tr]
      walk_at "ev"
    | _ => exact h.elim
end E3

namespace E3
open PySem PySem.Spec PyProof.Rows L2
local macro_rules | `(tactic| walk_at "ev") => `(tactic| try simp (disch := first | decide | decide +kernel | omega) only [fnD, startF, endF, sSeq, sAsg, sSet, sSetV, sAsgV, sIf, sRet, sNew, sNewV, sMut, sMutV, sFor, sForR, sFreeze, sNil, sExpr, optK, thenR_ok, thenR_exc, thenR_stuck,
  view, mask, E3.eVar_zero, E3.eVar_succ, eC, e1, e2, eCall, eTup, eLst, eSl, oNone, oSome, eAnd, eOr, eIf, E3.tAnd, E3.tOr, E3.tNot, E3.tB, asB, notD, aNil, aCons, Res.bind_ok, Res.bind_exc, Res.bind_stuck,
  gT, gsCons, gsNil, gN, tupD, lstD, Slot.dat, Slot.shd, List.length_cons, List.length_nil, List.map_cons, List.map_nil, List.replicate, List.append_nil, List.cons_append, List.nil_append, Option.map_some, Option.map_none, Option.bind_some, Option.bind_none,
  List.getElem?_cons_zero, List.getElem?_cons_succ, List.set_cons_zero, List.set_cons_succ, Nat.reduceAdd, Nat.reduceSub, Nat.reduceEqDiff, if_true, if_false, ite_true, ite_false, reduceIte, decide_true, decide_false, reduceCtorEq, Bool.not_true, Bool.not_false, Bool.false_eq_true, Bool.true_eq_false, Bool.or_true, Bool.true_or, Bool.false_or, Bool.or_false, Bool.and_true, Bool.and_false, Bool.true_and, Bool.false_and, addI, subI, ltI, leI, gtI, geI, eqI, neI, E3.negI, ix_cell0, ix_cell1, E3.le0, E3.le1, E3.le2, E3.le3, E3.le4, E3.le5, E3.le6, beq_self_eq_true, E3.divmodI, E3.modI, E3.fdivI, E3.powL, E3.mulLL, E3.isi_bool_none, E3.isi_bool_bool, E3.isi_bool_int, E3.isi_bool_str, E3.isi_bool_list, E3.isi_bool_tuple, E3.isi_int_none, E3.isi_int_bool, E3.isi_int_int, E3.isi_int_str, E3.isi_int_list, E3.isi_int_tuple, E3.isi_str_none, E3.isi_str_bool, E3.isi_str_int, E3.isi_str_str, E3.isi_str_list, E3.isi_str_tuple, E3.isi_list_none, E3.isi_list_bool, E3.isi_list_int, E3.isi_list_str, E3.isi_list_list, E3.isi_list_tuple, E3.isi_tuple_none, E3.isi_tuple_bool, E3.isi_tuple_int, E3.isi_tuple_str, E3.isi_tuple_list, E3.isi_tuple_tuple, E3.isN_none, E3.ntN_none, E3.isN_bool, E3.ntN_bool, E3.isN_int, E3.ntN_int, E3.isN_str, E3.ntN_str, E3.isN_list, E3.ntN_list, E3.isN_tuple, E3.ntN_tuple, E3.len_list, E3.len_tup, E3.seq_list, E3.seq_tup, E3.tup_list, E3.tup_tup, E3.lst_list, E3.lst_tup])
theorem SN.mono {r : SR} {P Q : SS → Prop} (h : SN r P) (k : ∀ σ, P σ → Q σ) : SN r Q := let ⟨σ, e, p⟩ := h; ⟨σ, e, k σ p⟩
theorem SN.seq {g h : SF} {σ : SS} {P Q : SS → Prop} (a : SN (g σ) P) (b : ∀ σ', P σ' → SN (h σ') Q) : SN (sSeq g h σ) Q := by
  obtain ⟨σ1, e, p⟩ := a
  unfold sSeq
  rw [e]
  exact b σ1 p
theorem SN.thenT {g h : SF} {σ : SS} {P : SS → Prop} {Q : D → Prop} (a : SN (g σ) P) (b : ∀ σ', P σ' → ST (h σ') Q) : ST (sSeq g h σ) Q := by
  obtain ⟨σ1, e, p⟩ := a
  unfold sSeq
  rw [e]
  exact b σ1 p
theorem loop_ints {i : Nat} {body : SF} {Inv : SS → Prop} : ∀ (ms : List Int) (σ : SS), Inv σ → (∀ (m : Int) (σ : SS), Inv σ → SN (body (σ.set i (some (.sh (.int m))))) Inv) → ∃ σ', forS (gN i) body (ms.map .int) σ = .ok .nx σ' ∧ Inv σ'
  | [], σ, h, _ => ⟨σ, rfl, h⟩
  | m :: ms, σ, h, k => by
    obtain ⟨σ1, e1, h1⟩ := k m σ h
    obtain ⟨σ2, e2, h2⟩ := loop_ints ms σ1 h1 k
    refine ⟨σ2, ?_, h2⟩
    rw [List.map_cons]
    unfold forS
    show (match body (σ.set i (some (.sh (.int m)))) with
      | .ok .nx σ2 => forS (gN i) body (ms.map .int) σ2
      | .ok .ct σ2 => forS (gN i) body (ms.map .int) σ2
      | .ok .bk σ2 => .ok .nx σ2
      | .ok (.rt v) σ2 => .ok (.rt v) σ2
      | .exc x σ2 => .exc x σ2
      | .stuck => .stuck) = _
    rw [e1]
    exact e2
theorem loop_keep {p : GF} {body : SF} {Inv : SS → Prop} : ∀ (ds : List D) (σ : SS), Inv σ → (∀ d ∈ ds, ∀ σ, Inv σ → ∃ σ1, p d σ = some σ1 ∧ SN (body σ1) Inv) → SN (forS p body ds σ) Inv
  | [], σ, h, _ => ⟨σ, rfl, h⟩
  | d :: ds, σ, h, k => by
    obtain ⟨σ1, e1, σ2, e2, h2⟩ := k d List.mem_cons_self σ h
    obtain ⟨σ3, e3, h3⟩ := loop_keep ds σ2 h2 fun d hd => k d (List.mem_cons_of_mem _ hd)
    refine ⟨σ3, ?_, h3⟩
    unfold forS
    rw [e1]
    simp only [e2]
    exact e3
theorem law_skel {N i : Nat} {it : DS → Res (List D)} {body : SF} {Inv : SS → Prop} {s : D} (hit : ∃ ms : List Int, it (mask (startF N [s])) = .ok (ms.map .int)) (h0 : Inv (startF N [s]))
    (hb : ∀ (m : Int) (σ : SS), Inv σ → SN (body (σ.set i (some (.sh (.int m))))) Inv) : fnD N 1 (sSeq (sFor it (gN i) body) (sRet (eC (.bool true)))) [s] = .ok (.bool true) := by
  obtain ⟨ms, e⟩ := hit
  obtain ⟨σ', e2, _⟩ := loop_ints ms _ h0 hb
  unfold fnD
  rw [if_pos (show [s].length = 1 from rfl)]
  unfold sSeq sFor
  rw [e, thenR_ok, e2]
  rfl
def lawCell : List D → Res D := fnD 2 2 (sSeq (sIf (tB (e2 ltD (eVar 1) (eCall lenD (aCons (eVar 0) aNil)))) (sRet (e2 ixD (eVar 0) (eVar 1))) sNil)
  (sRet (eC (.int 0))))
theorem ix_ints {ns : List Int} {k : Int} (h0 : 0 ≤ k) (h : k < (ns.length : Int)) : ∃ c : Int, ixD (.list (ns.map .int)) (.int k) = .ok (.int c) := by
  have hl : k.toNat < ns.length := by omega
  refine ⟨ns[k.toNat], ?_⟩
  show optR (L2.atI (ns.map PyData.int) k) = _
  have e : L2.atI (ns.map PyData.int) k = some (.int ns[k.toNat]) := by
    unfold L2.atI ixN
    rw [List.length_map]
    rw [if_pos h0, if_pos h]
    simp [hl]
  rw [e]; rfl
theorem cell_lt (ns : List Int) : True := trivial
theorem law_cell_ok (ns : List Int) (k : Int) (h0 : 0 ≤ k) : ∃ c : Int, lawCell [.list (ns.map .int), .int k] = .ok (.int c) := by
  by_cases h : k < (ns.length : Int)
  · obtain ⟨c, e⟩ := ix_ints h0 h
    refine ⟨c, ?_⟩
    unfold lawCell
    walk_at "ev"
    rw [List.length_map, decide_eq_true h]
    walk_at "ev"
    rw [e]
    walk_at "ev"
  · refine ⟨0, ?_⟩
    unfold lawCell
    walk_at "ev"
    rw [List.length_map, decide_eq_false h]
    walk_at "ev"
theorem cut_of (ns : List Int) (lo hi : Option Int) : ∃ ms : List Int, cutD (ns.map PyData.int) lo hi = ms.map PyData.int ∧ ms.length ≤ ns.length := cut_ints ns lo hi
theorem it_of (c : Int) (ns : List Int) (lo hi : Option Int) (h : ns.length ≤ 63) : ∃ ms : List Int, addD (.list [.int c]) (.list (cutD (ns.map PyData.int) lo hi)) = .ok (.list (ms.map .int)) := by
  obtain ⟨ms, e, hl⟩ := cut_ints ns lo hi
  refine ⟨c :: ms, ?_⟩
  rw [e]
  show (if _ then _ else _) = _
  rw [if_pos (by rw [List.length_map]; show 1 + ms.length ≤ _; rw [sizeLine_eq]; omega)]
  rfl
theorem ix_tup0 (a : D) (l : List D) : ixD (.tuple (a :: l)) (.int 0) = .ok a := by
  show optR (L2.atI (a :: l) 0) = _
  have : L2.atI (a :: l) 0 = some a := by
    unfold L2.atI ixN
    rw [if_pos (by omega), if_pos (by rw [List.length_cons]; omega)]; rfl
  rw [this]; rfl
theorem ix_lst0 (a : D) (l : List D) : ixD (.list (a :: l)) (.int 0) = .ok a := by
  show optR (L2.atI (a :: l) 0) = _
  have : L2.atI (a :: l) 0 = some a := by
    unfold L2.atI ixN
    rw [if_pos (by omega), if_pos (by rw [List.length_cons]; omega)]; rfl
  rw [this]; rfl
theorem ix_at {l : List D} {k : Nat} {d : D} (h : l[k]? = some d) : ixD (.tuple l) (.int (k : Nat)) = .ok d ∧ ixD (.list l) (.int (k : Nat)) = .ok d := by
  have hk : k < l.length := (List.getElem?_eq_some_iff.mp h).1
  have e : L2.atI l ((k : Nat) : Int) = some d := by
    unfold L2.atI ixN
    rw [if_pos (by omega), if_pos (by omega)]
    simpa using h
  constructor
  · show optR (L2.atI l _) = _
    rw [e]; rfl
  · show optR (L2.atI l _) = _
    rw [e]; rfl
theorem shaped_lst (ps : List (Int × Int)) : SeqAt.shaped (.list (ps.map cellD)) = true := by
  have h1 := lay_cells ps
  have h2 := deep_cells ps
  unfold SeqAt.shaped
  simp only [PyData.canLay0, PyData.depth, h1]
  simp
  omega
theorem eq_lists (ps qs : List (Int × Int)) : eqD (.list (ps.map cellD)) (.list (qs.map cellD)) = .ok (.bool (decide (ps = qs))) := by
  unfold eqD
  rw [shaped_lst, shaped_lst]
  show Res.ok (PyData.bool (PyData.eqvAll (ps.map cellD) (qs.map cellD))) = _
  rw [eqv_cells]
theorem eq_tups (ps qs : List (Int × Int)) : eqD (.tuple (ps.map cellD)) (.tuple (qs.map cellD)) = .ok (.bool (decide (ps = qs))) := by
  unfold eqD
  rw [shaped_cells, shaped_cells]
  show Res.ok (PyData.bool (PyData.eqvAll (ps.map cellD) (qs.map cellD))) = _
  rw [eqv_cells]
theorem eq_cell (p q : Int × Int) : eqD (cellD p) (cellD q) = .ok (.bool (decide (p = q))) := by
  unfold eqD
  rw [shaped_cell, shaped_cell, eqv_cell]; rfl
theorem ne_cell (p q : Int × Int) : neD (cellD p) (cellD q) = .ok (.bool (!decide (p = q))) := by
  unfold neD
  rw [shaped_cell, shaped_cell, eqv_cell]; rfl
theorem notIn_cells (p : Int × Int) (ps : List (Int × Int)) : notInG (cellD p) (tupC ps) = .ok (.bool (!decide (p ∈ ps))) := by
  have hs : (SeqAt.shaped (cellD p) && SeqAt.shaped (.tuple (ps.map cellD))) = true := by rw [shaped_cell, shaped_cells]; rfl
  show (if (SeqAt.shaped (cellD p) && SeqAt.shaped (.tuple (ps.map cellD))) = true then Res.ok (PyData.bool !memD (cellD p) (ps.map cellD)) else .stuck) = _
  rw [if_pos hs, mem_cells]
def lessC (p q : Int × Int) : Int × Int := (p.1 - q.1, p.2 - q.2)
def plusC (p q : Int × Int) : Int × Int := (p.1 + q.1, p.2 + q.2)
def dLessCell : List D → Res D := fnD 2 2 (sRet (eTup (aCons (e2 subD (e2 ixD (eVar 0) (eC (.int 0))) (e2 ixD (eVar 1) (eC (.int 0)))) (aCons (e2 subD (e2 ixD (eVar 0) (eC (.int 1))) (e2 ixD (eVar 1) (eC (.int 1)))) aNil))))
theorem less_ok (p q : Int × Int) : dLessCell [cellD p, cellD q] = .ok (cellD (lessC p q)) := rfl
theorem plus_ok (p q : Int × Int) : dMovedCell [cellD p, cellD q] = .ok (cellD (plusC p q)) := rfl
theorem lc_cells {σ : DS} {k : Nat} {f : DS → Res D} {g : Int × Int → D} (ps : List (Int × Int)) (h : ∀ p ∈ ps, f ((σ.set k none).set k (some (cellD p))) = .ok (g p)) (hk : k < σ.length) :
    lcD (gN k) tYesD f (wipeD σ [k]) (ps.map cellD) = .ok (ps.map g) := by
  refine lc_of (g := cellD) (q := g) ps fun p hp => ⟨_, rfl, rfl, ?_⟩
  rw [← h p hp]
  congr 1
  show view ((upS (wipeD σ [k])).set k (some (.sh (cellD p)))) = _
  unfold view upS wipeD
  rw [List.map_set]
  show ((List.map _ (List.map _ ((wipeD σ []).set k none))).set k _) = _
  rw [List.map_map]
  have : ∀ l : DS, List.map ((fun o : Option Slot => Option.map Slot.dat o) ∘ fun o : Option D => Option.map Slot.sh o) l = l := fun l => by
    conv => rhs; rw [← List.map_id l]
    apply List.map_congr_left
    intro o _
    cases o <;> rfl
  rw [this]
  rfl
theorem lcC {it : DS → Res (List D)} {σ : DS} {k : Nat} {f : DS → Res D} {g : Int × Int → D} (ps : List (Int × Int)) (hi : it σ = .ok (ps.map cellD)) (hl : ps.length ≤ 10000) (h : ∀ p ∈ ps, f ((σ.set k none).set k (some (cellD p))) = .ok (g p)) (hk : k < σ.length) :
    eLc it (gN k) [k] tYesD f σ = .ok (.list (ps.map g)) := by
  unfold eLc
  rw [hi, Res.bind_ok, if_pos (by rw [List.length_map]; exact Nat.le_trans hl (by decide)), lc_cells ps h hk]
  rfl
theorem lcCT {it : DS → Res (List D)} {σ : DS} {k : Nat} {c : DS → Res Bool} {f : DS → Res D} {t : Int × Int → Bool} {g : Int × Int → D} (ps : List (Int × Int)) (hi : it σ = .ok (ps.map cellD)) (hl : ps.length ≤ 10000)
    (hc : ∀ p ∈ ps, c ((σ.set k none).set k (some (cellD p))) = .ok (t p)) (h : ∀ p ∈ ps, t p = true → f ((σ.set k none).set k (some (cellD p))) = .ok (g p)) (hk : k < σ.length) :
    eLc it (gN k) [k] c f σ = .ok (.list ((ps.filter t).map g)) := by
  unfold eLc
  rw [hi, Res.bind_ok, if_pos (by rw [List.length_map]; exact Nat.le_trans hl (by decide))]
  have : lcD (gN k) c f (wipeD σ [k]) (ps.map cellD) = .ok ((ps.filter t).map g) := by
    have un : ∀ p : Int × Int, view ((upS (wipeD σ [k])).set k (some (.sh (cellD p)))) = (σ.set k none).set k (some (cellD p)) := fun p => by
      unfold view upS wipeD
      rw [List.map_set]
      show ((List.map _ (List.map _ ((wipeD σ []).set k none))).set k _) = _
      rw [List.map_map]
      have : ∀ l : DS, List.map ((fun o : Option Slot => Option.map Slot.dat o) ∘ fun o : Option D => Option.map Slot.sh o) l = l := fun l => by
        conv => rhs; rw [← List.map_id l]
        apply List.map_congr_left
        intro o _
        cases o <;> rfl
      rw [this]
      rfl
    refine lc_if (g := cellD) (q := g) (t := t) ps fun p hp => ⟨_, rfl, ?_, fun ht => ?_⟩
    · rw [← hc p hp]; exact congrArg c (un p)
    · rw [← h p hp ht]; exact congrArg f (un p)
  rw [this]
  rfl
theorem lay_ints : ∀ ns : List Int, PyData.canLayAll0 (ns.map .int) = true
  | [] => rfl
  | _ :: ns => by simp only [List.map_cons, PyData.canLayAll0, PyData.canLay0, lay_ints ns]; rfl
theorem deep_ints : ∀ ns : List Int, PyData.depthAll (ns.map .int) ≤ 1
  | [] => by simp [PyData.depthAll]
  | _ :: ns => by
    have := deep_ints ns
    simp only [List.map_cons, PyData.depthAll, PyData.depth]
    omega
theorem minOk_ints (ns : List Int) (h : ns.length ≤ sizeLine) : minOk (ns.map .int) = true := by
  have a1 : ((ns.map PyData.int).all fun d => (ns.map PyData.int).all fun e => PySem.W.alike d e) = true := List.all_eq_true.mpr fun d hd => List.all_eq_true.mpr fun e he => by
    obtain ⟨p, _, rfl⟩ := List.mem_map.mp hd
    obtain ⟨q, _, rfl⟩ := List.mem_map.mp he
    rfl
  have a2 : (ns.map PyData.int).all noTup = true := List.all_eq_true.mpr fun d hd => by
    obtain ⟨p, _, rfl⟩ := List.mem_map.mp hd; rfl
  have a3 : noNone (ns.map PyData.int) = true := List.all_eq_true.mpr fun d hd => by
    obtain ⟨p, _, rfl⟩ := List.mem_map.mp hd; rfl
  unfold minOk sortOk
  rw [a1, a2, a3, lay_ints, decide_eq_true (Nat.le_trans (deep_ints ns) (by decide)), decide_eq_true (by rw [List.length_map]; exact h)]
  simp
theorem max_ints {ns : List Int} (h0 : ns ≠ []) (h : ns.length ≤ sizeLine) : ∃ m : Int, maxTD [.list (ns.map .int)] = .ok (.int m) := by
  cases ns with
  | nil => exact absurd rfl h0
  | cons n ns =>
    refine ⟨ns.foldl max n, ?_⟩
    show (if minOk ((n :: ns).map PyData.int) = true then Res.ok (PySem.W.maxD (.int n) (ns.map .int)) else .stuck) = _
    rw [if_pos (minOk_ints _ h), PySem.W.maxD_ints]
theorem min_ints {ns : List Int} (h0 : ns ≠ []) (h : ns.length ≤ sizeLine) : ∃ m : Int, minTD [.list (ns.map .int)] = .ok (.int m) := by
  cases ns with
  | nil => exact absurd rfl h0
  | cons n ns =>
    refine ⟨ns.foldl min n, ?_⟩
    show (if minOk ((n :: ns).map PyData.int) = true then Res.ok (PySem.W.minD (.int n) (ns.map .int)) else .stuck) = _
    rw [if_pos (minOk_ints _ h), PySem.W.minD_ints]
end E3

namespace H70
open PySem PySem.Spec PyProof.Rows L2 E3
abbrev Pt := Int × Int
theorem fR_i (i : Int) : flatR (.ok (.int i)) = .ok (.int i) := rfl
theorem fR_b (i : Bool) : flatR (.ok (.bool i)) = .ok (.bool i) := rfl
theorem fR_ii (i j : Int) : flatR (.ok (.tuple [.int i, .int j])) = .ok (.tuple [.int i, .int j]) := rfl
theorem fR_c (p : Pt) : flatR (.ok (cellD p)) = .ok (cellD p) := rfl
def takeN (c : Pt) (s : List Pt × List Pt) (st : Pt) : List Pt × List Pt := if plusC c st ∈ s.1 then (s.1.filter (fun x => decide (x ≠ plusC c st)), s.2 ++ [plusC c st]) else s
def stepAll (c : Pt) (steps : List Pt) (s : List Pt × List Pt) : List Pt × List Pt := steps.foldl (takeN c) s
def flo (steps : List Pt) : Nat → List Pt × List Pt → Nat → List Pt × List Pt
  | 0, s, _ => s
  | n + 1, s, k => match s.2[k]? with
    | none => s
    | some c => flo steps n (stepAll c steps s) (k + 1)
def flood (steps L : List Pt) (c : Pt) : List Pt × List Pt := flo steps (L.length + 1) (L.filter (fun x => decide (x ≠ c)), [c]) 0
inductive Rch (steps L : List Pt) (c : Pt) : Pt → Prop
  | here : c ∈ L → Rch steps L c c
  | on {x st : Pt} : Rch steps L c x → st ∈ steps → plusC x st ∈ L → Rch steps L c (plusC x st)
theorem Rch.mem {steps L : List Pt} {c x : Pt} (h : Rch steps L c x) : x ∈ L := by
  cases h with
  | here h => exact h
  | on _ _ h => exact h
theorem Rch.start {steps L : List Pt} {c x : Pt} (h : Rch steps L c x) : c ∈ L := by
  induction h with
  | here h => exact h
  | on _ _ _ ih => exact ih
theorem Rch.trans {steps L : List Pt} {a b c : Pt} (h1 : Rch steps L a b) (h2 : Rch steps L b c) : Rch steps L a c := by
  induction h2 with
  | here _ => exact h1
  | on _ hs hl ih => exact .on ih hs hl
def Sym (steps : List Pt) : Prop := ∀ s ∈ steps, (-s.1, -s.2) ∈ steps
theorem plus_back (x s : Pt) : plusC (plusC x s) (-s.1, -s.2) = x := by
  unfold plusC
  refine Prod.ext ?_ ?_
  · show x.1 + s.1 + -s.1 = x.1; omega
  · show x.2 + s.2 + -s.2 = x.2; omega
theorem Rch.symm {steps L : List Pt} (hS : Sym steps) {a b : Pt} (h : Rch steps L a b) : Rch steps L b a := by
  induction h with
  | here h => exact .here h
  | on hx hs hl ih =>
    rename_i x st
    have h1 : Rch steps L (plusC x st) x := by
      have := Rch.on (Rch.here (steps := steps) hl) (hS _ hs) (by rw [plus_back]; exact hx.mem)
      rw [plus_back] at this
      exact this
    exact h1.trans ih
theorem Rch.mono {steps L M : List Pt} (h : ∀ x ∈ L, x ∈ M) {a b : Pt} (r : Rch steps L a b) : Rch steps M a b := by
  induction r with
  | here q => exact .here (h _ q)
  | on _ hs hl ih => exact .on ih hs (h _ hl)

structure FI (L : List Pt) (s : List Pt × List Pt) : Prop where
  n1 : s.1.Nodup
  n2 : s.2.Nodup
  dis : ∀ x ∈ s.1, x ∉ s.2
  all : ∀ x, x ∈ L ↔ x ∈ s.1 ∨ x ∈ s.2
  len : s.1.length + s.2.length = L.length
theorem filter_ne_len : ∀ {l : List Pt} {a : Pt}, l.Nodup → a ∈ l → (l.filter fun x => decide (x ≠ a)).length + 1 = l.length
  | [], _, _, h => by cases h
  | b :: r, a, nd, h => by
    have nd' := List.nodup_cons.mp nd
    by_cases e : b = a
    · subst e
      rw [List.filter_cons_of_neg (by simp)]
      have : r.filter (fun x => decide (x ≠ b)) = r := List.filter_eq_self.mpr fun x hx => decide_eq_true fun z => nd'.1 (z ▸ hx)
      rw [this]; rfl
    · rw [List.filter_cons_of_pos (by simpa using e), List.length_cons, List.length_cons]
      have := filter_ne_len nd'.2 ((List.mem_cons.mp h).resolve_left fun z => e z.symm)
      omega
theorem FI.start {L : List Pt} {c : Pt} (nd : L.Nodup) (hc : c ∈ L) : FI L (L.filter (fun x => decide (x ≠ c)), [c]) := by
  refine ⟨nd.filter _, List.nodup_cons.mpr ⟨by simp, List.nodup_nil⟩, fun x hx => ?_, fun x => ?_, ?_⟩
  · have := (List.mem_filter.mp hx).2
    simpa using this
  · by_cases e : x = c
    · subst e; simp [hc]
    · simp [e]
  · exact filter_ne_len nd hc
theorem FI.take {L : List Pt} {s : List Pt × List Pt} (h : FI L s) (c st : Pt) : FI L (takeN c s st) := by
  unfold takeN
  by_cases e : plusC c st ∈ s.1
  · rw [if_pos e]
    have h2 : plusC c st ∉ s.2 := h.dis _ e
    refine ⟨h.n1.filter _, ?_, fun x hx => ?_, fun x => ?_, ?_⟩
    · exact List.nodup_append.mpr ⟨h.n2, List.nodup_cons.mpr ⟨by simp, List.nodup_nil⟩, fun a ha b hb z => by
        rw [List.mem_singleton.mp hb] at z
        exact h2 (z ▸ ha)⟩
    · obtain ⟨q1, q2⟩ := List.mem_filter.mp hx
      intro z
      rcases List.mem_append.mp z with z | z
      · exact h.dis x q1 z
      · exact (of_decide_eq_true q2) (List.mem_singleton.mp z)
    · rw [h.all]
      by_cases ex : x = plusC c st
      · subst ex; simp [e]
      · simp [ex]
    · have := filter_ne_len h.n1 e
      show (s.1.filter _).length + (s.2 ++ [_]).length = _
      rw [List.length_append, List.length_singleton]
      have := h.len
      omega
  · rw [if_neg e]; exact h
theorem FI.step {L : List Pt} (c : Pt) : ∀ {steps : List Pt} {s : List Pt × List Pt}, FI L s → FI L (stepAll c steps s)
  | [], _, h => h
  | st :: r, s, h => FI.step c (steps := r) (h.take c st)
theorem take_sub {c st : Pt} {s : List Pt × List Pt} : (∀ x ∈ (takeN c s st).1, x ∈ s.1) ∧ ∃ more, (takeN c s st).2 = s.2 ++ more := by
  unfold takeN
  split
  · exact ⟨fun x hx => (List.mem_filter.mp hx).1, _, rfl⟩
  · exact ⟨fun _ h => h, [], by simp⟩
theorem step_sub {c : Pt} : ∀ {steps : List Pt} {s : List Pt × List Pt}, (∀ x ∈ (stepAll c steps s).1, x ∈ s.1) ∧ ∃ more, (stepAll c steps s).2 = s.2 ++ more
  | [], s => ⟨fun _ h => h, [], by simp [stepAll]⟩
  | st :: r, s => by
    obtain ⟨a, m, b⟩ := take_sub (c := c) (st := st) (s := s)
    obtain ⟨a2, m2, b2⟩ := step_sub (c := c) (steps := r) (s := takeN c s st)
    exact ⟨fun x hx => a x (a2 x hx), m ++ m2, by show (stepAll c r (takeN c s st)).2 = _; rw [b2, b, List.append_assoc]⟩
theorem step_clear {c : Pt} : ∀ {steps : List Pt} {s : List Pt × List Pt} {st : Pt}, st ∈ steps → plusC c st ∉ (stepAll c steps s).1
  | a :: r, s, st, h => by
    rcases List.mem_cons.mp h with rfl | h
    · intro z
      have z1 := (step_sub (c := c) (steps := r) (s := takeN c s st)).1 _ z
      unfold takeN at z1
      split at z1
      · have := (List.mem_filter.mp z1).2
        simp at this
      · rename_i e; exact e z1
    · exact step_clear (steps := r) (s := takeN c s a) h
theorem step_reach {L : List Pt} {c0 c : Pt} (all : List Pt) (hc : Rch all L c0 c) : ∀ {steps : List Pt} {s : List Pt × List Pt}, (∀ st ∈ steps, st ∈ all) → (∀ x ∈ s.1, x ∈ L) → (∀ x ∈ s.2, Rch all L c0 x) → ∀ x ∈ (stepAll c steps s).2, Rch all L c0 x
  | [], _, _, _, h => h
  | st :: r, s, ha, hl, h => by
    refine step_reach all hc (steps := r) (s := takeN c s st) (fun x hx => ha x (List.mem_cons_of_mem _ hx)) (fun x hx => hl x (take_sub.1 x hx)) ?_
    unfold takeN
    split
    · rename_i e
      intro x hx
      rcases List.mem_append.mp hx with q | q
      · exact h x q
      · rw [List.mem_singleton.mp q]
        exact .on hc (ha _ List.mem_cons_self) (hl _ e)
    · exact h
theorem flo_ok {steps L : List Pt} {c : Pt} : ∀ (n : Nat) (s : List Pt × List Pt) (k : Nat), FI L s → (∀ x ∈ s.2, Rch steps L c x) → k ≤ s.2.length → L.length + 1 ≤ n + k → (∀ i x, i < k → s.2[i]? = some x → ∀ st ∈ steps, plusC x st ∉ s.1) →
    FI L (flo steps n s k) ∧ (∀ x ∈ (flo steps n s k).2, Rch steps L c x) ∧ (∃ more, (flo steps n s k).2 = s.2 ++ more) ∧ ∀ x ∈ (flo steps n s k).2, ∀ st ∈ steps, plusC x st ∉ (flo steps n s k).1
  | 0, s, k, h, _, hk, hn, _ => by
    have := h.len
    omega
  | n + 1, s, k, h, hr, hk, hn, hd => by
    unfold flo
    cases q : s.2[k]? with
    | none =>
      have hk2 : s.2.length ≤ k := List.getElem?_eq_none_iff.mp q
      refine ⟨h, hr, ⟨[], by simp⟩, fun x hx st hs => ?_⟩
      obtain ⟨i, hi⟩ := List.mem_iff_getElem?.mp hx
      have hi1 : i < s.2.length := (List.getElem?_eq_some_iff.mp hi).1
      exact hd i x (by omega) hi st hs
    | some c1 =>
      have hk2 : k < s.2.length := (List.getElem?_eq_some_iff.mp q).1
      obtain ⟨sb, more, em⟩ := step_sub (c := c1) (steps := steps) (s := s)
      have hc1 : Rch steps L c c1 := hr _ (List.mem_of_getElem? q)
      have h2 : FI L (stepAll c1 steps s) := h.step c1
      have r2 := step_reach steps hc1 (steps := steps) (s := s) (fun _ z => z) (fun x hx => (h.all x).mpr (.inl hx)) hr
      obtain ⟨g1, g2, ⟨m3, g3⟩, g4⟩ := flo_ok n (stepAll c1 steps s) (k + 1) h2 r2 (by rw [em, List.length_append]; omega) (by omega) (fun i x hi hx st hs => by
        rw [em] at hx
        by_cases e : i = k
        · subst e
          rw [List.getElem?_append_left hk2, q] at hx
          cases hx
          exact step_clear hs
        · rw [List.getElem?_append_left (by omega)] at hx
          exact fun z => hd i x (by omega) hx st hs (sb _ z))
      exact ⟨g1, g2, ⟨more ++ m3, by show (flo steps n (stepAll c1 steps s) (k + 1)).2 = _; rw [g3, em, List.append_assoc]⟩, g4⟩
theorem flood_ok {steps L : List Pt} {c : Pt} (nd : L.Nodup) (hc : c ∈ L) : FI L (flood steps L c) ∧ ∀ x, x ∈ (flood steps L c).2 ↔ Rch steps L c x := by
  obtain ⟨h1, h2, ⟨more, h3⟩, h4⟩ := flo_ok (steps := steps) (c := c) (L.length + 1) _ 0 (FI.start nd hc) (fun x hx => by rw [List.mem_singleton.mp hx]; exact .here hc) (Nat.zero_le _) (by omega) (fun i _ hi _ => absurd hi (Nat.not_lt_zero i))
  refine ⟨h1, fun x => ⟨h2 x, fun r => ?_⟩⟩
  induction r with
  | here _ =>
    show c ∈ (flo steps (L.length + 1) _ 0).2
    rw [h3]; exact List.mem_append_left _ (List.mem_singleton.mpr rfl)
  | on _ hs hl ih =>
    rcases (h1.all _).mp hl with z | z
    · exact absurd z (h4 _ ih _ hs)
    · exact z

def regs (steps : List Pt) : List Pt → List Pt → List (List Pt) → List (List Pt)
  | [], _, acc => acc
  | c :: cs, L, acc => if c ∈ L then regs steps cs (flood steps L c).1 (acc ++ [srt (flood steps L c).2]) else regs steps cs L acc
def regOf (steps L : List Pt) (c : Pt) : List Pt := srt (flood steps L c).2
theorem mem_regOf {steps L : List Pt} {c x : Pt} (nd : L.Nodup) (hc : c ∈ L) : x ∈ regOf steps L c ↔ Rch steps L c x := by
  unfold regOf
  rw [mem_srt]
  exact (flood_ok nd hc).2 x
def Cl (steps all L : List Pt) : Prop := ∀ x ∈ L, ∀ y, Rch steps all x y → y ∈ L
theorem Cl.rch {steps all L : List Pt} (h : Cl steps all L) (sub : ∀ x ∈ L, x ∈ all) {c x : Pt} (hc : c ∈ L) : Rch steps L c x ↔ Rch steps all c x := by
  refine ⟨fun r => r.mono sub, fun r => ?_⟩
  induction r with
  | here _ => exact .here hc
  | on hx hs hl ih => exact .on ih hs (h c hc _ (.on hx hs hl))
theorem Cl.next {steps all L : List Pt} (hS : Sym steps) (h : Cl steps all L) (nd : L.Nodup) (sub : ∀ x ∈ L, x ∈ all) {c : Pt} (hc : c ∈ L) : Cl steps all (flood steps L c).1 := by
  obtain ⟨f1, f2⟩ := flood_ok (steps := steps) nd hc
  intro x hx y r
  have hxL : x ∈ L := (f1.all x).mpr (.inl hx)
  have hy := h x hxL y r
  rcases (f1.all y).mp hy with z | z
  · exact z
  · have r1 : Rch steps L c y := (f2 y).mp z
    have r2 : Rch steps L y x := ((h.rch sub hxL).mpr r).symm hS
    exact absurd ((f2 x).mpr (r1.trans r2)) (f1.dis x hx)
theorem regOf_eq {steps all L : List Pt} (h : Cl steps all L) (nd : L.Nodup) (na : all.Nodup) (sub : ∀ x ∈ L, x ∈ all) {c : Pt} (hc : c ∈ L) : regOf steps L c = regOf steps all c :=
  rise_uniq (pw_srt _) (pw_srt _) fun p => by
    show p ∈ regOf steps L c ↔ p ∈ regOf steps all c
    rw [mem_regOf nd hc, mem_regOf na (sub c hc), h.rch sub hc]
theorem regs_are {steps all : List Pt} (hS : Sym steps) (na : all.Nodup) : ∀ (cs L : List Pt) (acc : List (List Pt)), Cl steps all L → L.Nodup → (∀ x ∈ L, x ∈ all) → (∀ g ∈ acc, ∃ c ∈ all, g = regOf steps all c) → ∀ g ∈ regs steps cs L acc, ∃ c ∈ all, g = regOf steps all c
  | [], _, _, _, _, _, h => h
  | c :: cs, L, acc, hC, nd, sub, h => by
    unfold regs
    by_cases e : c ∈ L
    · rw [if_pos e]
      obtain ⟨f1, f2⟩ := flood_ok (steps := steps) nd e
      refine regs_are hS na cs _ _ (hC.next hS nd sub e) f1.n1 (fun x hx => sub x ((f1.all x).mpr (.inl hx))) fun g hg => ?_
      rcases List.mem_append.mp hg with q | q
      · exact h g q
      · exact ⟨c, sub c e, by rw [List.mem_singleton.mp q]; exact regOf_eq hC nd na sub e⟩
    · rw [if_neg e]
      exact regs_are hS na cs L acc hC nd sub h
theorem regOf_same {steps all : List Pt} (hS : Sym steps) (na : all.Nodup) {c x : Pt} (hc : c ∈ all) (hx : x ∈ regOf steps all c) : regOf steps all x = regOf steps all c := by
  have r : Rch steps all c x := (mem_regOf na hc).mp hx
  exact rise_uniq (pw_srt _) (pw_srt _) fun p => by
    show p ∈ regOf steps all x ↔ p ∈ regOf steps all c
    rw [mem_regOf na r.mem, mem_regOf na hc]
    exact ⟨fun z => r.trans z, fun z => (r.symm hS).trans z⟩
theorem flood_len {steps L : List Pt} {c : Pt} (nd : L.Nodup) (hc : c ∈ L) : (flood steps L c).1.length ≤ L.length ∧ (flood steps L c).2.length ≤ L.length := by
  have := (flood_ok (steps := steps) nd hc).1.len
  omega
theorem regs_size {steps : List Pt} {n : Nat} : ∀ (cs L : List Pt) (acc : List (List Pt)), L.Nodup → L.length ≤ n → (∀ g ∈ acc, g.length ≤ n ∧ g.Pairwise ltP) → (regs steps cs L acc).length ≤ acc.length + cs.length ∧ ∀ g ∈ regs steps cs L acc, g.length ≤ n ∧ g.Pairwise ltP
  | [], _, acc, _, _, h => ⟨Nat.le_refl _, h⟩
  | c :: cs, L, acc, nd, hl, h => by
    unfold regs
    by_cases e : c ∈ L
    · rw [if_pos e]
      obtain ⟨l1, l2⟩ := flood_len (steps := steps) nd e
      obtain ⟨a, b⟩ := regs_size (steps := steps) (n := n) cs (flood steps L c).1 (acc ++ [srt (flood steps L c).2]) (flood_ok nd e).1.n1 (by omega) fun g hg => by
        rcases List.mem_append.mp hg with q | q
        · exact h g q
        · rw [List.mem_singleton.mp q]
          exact ⟨by have := srt_len (flood steps L c).2; omega, pw_srt _⟩
      refine ⟨?_, b⟩
      rw [List.length_append, List.length_singleton] at a
      rw [List.length_cons]
      omega
    · rw [if_neg e]
      obtain ⟨a, b⟩ := regs_size (steps := steps) (n := n) cs L acc nd hl h
      exact ⟨by rw [List.length_cons]; omega, b⟩
end H70

namespace E3
open PySem PySem.Spec PyProof.Rows L2
local macro_rules | `(tactic| walk_at "ev") => `(tactic| try simp (disch := first | decide | decide +kernel | omega) only [fnD, startF, endF, sSeq, sAsg, sSet, sSetV, sAsgV, sIf, sRet, sNew, sNewV, sMut, sMutV, sFor, sForR, sFreeze, sNil, sExpr, optK, thenR_ok, thenR_exc, thenR_stuck,
  view, mask, E3.eVar_zero, E3.eVar_succ, eC, e1, e2, eCall, eTup, eLst, eSl, oNone, oSome, eAnd, eOr, eIf, E3.tAnd, E3.tOr, E3.tNot, E3.tB, asB, notD, aNil, aCons, Res.bind_ok, Res.bind_exc, Res.bind_stuck,
  gT, gsCons, gsNil, gN, tupD, lstD, Slot.dat, Slot.shd, List.length_cons, List.length_nil, List.map_cons, List.map_nil, List.replicate, List.append_nil, List.cons_append, List.nil_append, Option.map_some, Option.map_none, Option.bind_some, Option.bind_none,
  List.getElem?_cons_zero, List.getElem?_cons_succ, List.set_cons_zero, List.set_cons_succ, Nat.reduceAdd, Nat.reduceSub, Nat.reduceEqDiff, if_true, if_false, ite_true, ite_false, reduceIte, decide_true, decide_false, reduceCtorEq, Bool.not_true, Bool.not_false, Bool.false_eq_true, Bool.true_eq_false, Bool.or_true, Bool.true_or, Bool.false_or, Bool.or_false, Bool.and_true, Bool.and_false, Bool.true_and, Bool.false_and, addI, subI, ltI, leI, gtI, geI, eqI, neI, E3.negI, ix_cell0, ix_cell1, E3.le0, E3.le1, E3.le2, E3.le3, E3.le4, E3.le5, E3.le6, beq_self_eq_true, E3.divmodI, E3.modI, E3.fdivI, E3.powL, E3.mulLL, E3.isi_bool_none, E3.isi_bool_bool, E3.isi_bool_int, E3.isi_bool_str, E3.isi_bool_list, E3.isi_bool_tuple, E3.isi_int_none, E3.isi_int_bool, E3.isi_int_int, E3.isi_int_str, E3.isi_int_list, E3.isi_int_tuple, E3.isi_str_none, E3.isi_str_bool, E3.isi_str_int, E3.isi_str_str, E3.isi_str_list, E3.isi_str_tuple, E3.isi_list_none, E3.isi_list_bool, E3.isi_list_int, E3.isi_list_str, E3.isi_list_list, E3.isi_list_tuple, E3.isi_tuple_none, E3.isi_tuple_bool, E3.isi_tuple_int, E3.isi_tuple_str, E3.isi_tuple_list, E3.isi_tuple_tuple, E3.isN_none, E3.ntN_none, E3.isN_bool, E3.ntN_bool, E3.isN_int, E3.ntN_int, E3.isN_str, E3.ntN_str, E3.isN_list, E3.ntN_list, E3.isN_tuple, E3.ntN_tuple, E3.len_list, E3.len_tup, E3.seq_list, E3.seq_tup, E3.tup_list, E3.tup_tup, E3.lst_list, E3.lst_tup])
theorem dlt_enc (a b : List Int) : PySem.W.dataLt (encK b) (encK a) = !decide (a ≤ b) := by
  have h := leD_enc a b
  have e : leD' (encK a) (encK b) = !PySem.W.dataLt (encK b) (encK a) := rfl
  rw [e] at h
  rw [← h, Bool.not_not]
theorem LI_tot (a b : List Int) : a ≤ b ∨ b ≤ a := by
  have := le_total_LI a b
  simpa using this
theorem LI_tr {a b c : List Int} (h : a ≤ b) (k : b ≤ c) : a ≤ c := by
  have := le_trans_LI a b c (decide_eq_true h) (decide_eq_true k)
  exact of_decide_eq_true this
theorem min_cells_ex : ∀ (xs : List (Int × Int)) (x : Int × Int), ∃ m, m ∈ x :: xs ∧ PySem.W.minD (cellD x) (xs.map cellD) = cellD m ∧ ∀ y ∈ x :: xs, kOf m ≤ kOf y
  | [], x => ⟨x, List.mem_cons_self, rfl, fun y hy => by rw [List.mem_singleton.mp hy]; exact (LI_tot (kOf x) (kOf x)).elim id id⟩
  | y :: xs, x => by
    have e : PySem.W.minD (cellD x) ((y :: xs).map cellD) = PySem.W.minD (if PySem.W.dataLt (cellD y) (cellD x) then cellD y else cellD x) (xs.map cellD) := rfl
    have l : PySem.W.dataLt (cellD y) (cellD x) = !decide (kOf x ≤ kOf y) := dlt_enc (kOf x) (kOf y)
    rw [e, l]
    by_cases h : kOf x ≤ kOf y
    · rw [decide_eq_true h]
      obtain ⟨m, h1, h2, h3⟩ := min_cells_ex xs x
      refine ⟨m, ?_, h2, fun z hz => ?_⟩
      · rcases List.mem_cons.mp h1 with q | q
        · rw [q]; exact List.mem_cons_self
        · exact List.mem_cons_of_mem _ (List.mem_cons_of_mem _ q)
      · rcases List.mem_cons.mp hz with q | q
        · rw [q]; exact h3 x List.mem_cons_self
        · rcases List.mem_cons.mp q with q | q
          · rw [q]; exact LI_tr (h3 x List.mem_cons_self) h
          · exact h3 z (List.mem_cons_of_mem _ q)
    · rw [decide_eq_false h]
      have h' : kOf y ≤ kOf x := (LI_tot (kOf x) (kOf y)).resolve_left h
      obtain ⟨m, h1, h2, h3⟩ := min_cells_ex xs y
      refine ⟨m, List.mem_cons_of_mem _ h1, h2, fun z hz => ?_⟩
      rcases List.mem_cons.mp hz with q | q
      · rw [q]; exact LI_tr (h3 y List.mem_cons_self) h'
      · exact h3 z q
def leastC (l : List (Int × Int)) : Int × Int := (srt l).headD (0, 0)
theorem srt_ne {l : List (Int × Int)} (h : l ≠ []) : srt l ≠ [] := by
  cases l with
  | nil => exact absurd rfl h
  | cons a l =>
    intro z
    have : a ∈ srt (a :: l) := mem_srt.mpr List.mem_cons_self
    rw [z] at this; cases this
theorem leastC_spec {l : List (Int × Int)} (h : l ≠ []) : leastC l ∈ l ∧ ∀ y ∈ l, y = leastC l ∨ ltP (leastC l) y := by
  have pw := pw_srt l
  have hm : ∀ y, y ∈ srt l ↔ y ∈ l := fun y => mem_srt
  unfold leastC
  cases e : srt l with
  | nil => exact absurd e (srt_ne h)
  | cons a r =>
    rw [e] at pw hm
    refine ⟨(hm a).mp List.mem_cons_self, fun y hy => ?_⟩
    rcases List.mem_cons.mp ((hm y).mpr hy) with q | q
    · exact .inl q
    · exact .inr ((List.pairwise_cons.mp pw).1 y q)
theorem ltP_of_le {p q : Int × Int} (h : kOf p ≤ kOf q) (n : p ≠ q) : ltP p q := lt_pair h fun e => n (kOf_eq.mp e)
theorem minOk_cells (ps : List (Int × Int)) (hl : ps.length ≤ sizeLine) : minOk (ps.map cellD) = true := by
  have ok : sortOk (ps.map cellD) = true := by
    unfold sortOk
    have a1 : ((ps.map cellD).all fun d => (ps.map cellD).all fun e => PySem.W.alike d e) = true := List.all_eq_true.mpr fun d hd => List.all_eq_true.mpr fun e he => by
      obtain ⟨p, _, rfl⟩ := List.mem_map.mp hd
      obtain ⟨q, _, rfl⟩ := List.mem_map.mp he
      exact alike_encK (kOf p) (kOf q)
    have a2 : (ps.map cellD).all isTupNE = true := List.all_eq_true.mpr fun d hd => by
      obtain ⟨p, _, rfl⟩ := List.mem_map.mp hd; rfl
    have a3 := lay_cells ps
    have a4 : PyData.depthAll (ps.map cellD) ≤ 64 := Nat.le_trans (deep_cells ps) (by decide)
    rw [a1, a2, a3, decide_eq_true a4, decide_eq_true (by rw [List.length_map]; exact hl)]; rfl
  unfold minOk
  rw [ok]
  exact List.all_eq_true.mpr fun d hd => by
    obtain ⟨p, _, rfl⟩ := List.mem_map.mp hd; rfl
theorem min_cells {l : List (Int × Int)} (h : l ≠ []) (hl : l.length ≤ sizeLine) : minTD [.list (l.map cellD)] = .ok (cellD (leastC l)) := by
  obtain ⟨s1, s2⟩ := leastC_spec h
  cases l with
  | nil => exact absurd rfl h
  | cons x xs =>
    obtain ⟨m, h1, h2, h3⟩ := min_cells_ex xs x
    have em : m = leastC (x :: xs) := by
      rcases s2 m h1 with q | q
      · exact q
      · have le := h3 _ s1
        apply Classical.byContradiction
        intro hn
        exact ltP_asym q (ltP_of_le le hn)
    show (if minOk ((x :: xs).map cellD) = true then Res.ok (PySem.W.minD (cellD x) (xs.map cellD)) else .stuck) = _
    rw [if_pos (minOk_cells _ hl), h2, em]
theorem filter_srt (l : List (Int × Int)) (t : Int × Int → Bool) : (srt l).filter t = srt (l.filter t) :=
  rise_uniq ((pw_srt l).filter t) (pw_srt _) fun p => by
    rw [List.mem_filter, mem_srt, mem_srt, List.mem_filter]
def build {α : Type} (f : α → Option D) (r : α → D) : List α → List D → D ⊕ List D
  | [], acc => .inr acc
  | x :: xs, acc => match f x with
    | none => .inl (r x)
    | some v => build f r xs (acc ++ [v])
theorem forS_build {α : Type} {p : GF} {body : SF} {g : α → D} {Inv : List D → SS → Prop} {f : α → Option D} {r : α → D} (n : Nat) : ∀ (xs : List α) (acc : List D) (σ : SS), acc.length + xs.length ≤ n → Inv acc σ →
    (∀ x acc σ, x ∈ xs → acc.length < n → Inv acc σ → ∃ σ1, p (g x) σ = some σ1 ∧ ∃ σ2, match f x with
      | none => body σ1 = .ok (.rt (r x)) σ2
      | some v => body σ1 = .ok .nx σ2 ∧ Inv (acc ++ [v]) σ2) →
    ∃ σ', match build f r xs acc with
      | .inl d => forS p body (xs.map g) σ = .ok (.rt d) σ'
      | .inr l => forS p body (xs.map g) σ = .ok .nx σ' ∧ Inv l σ'
  | [], acc, σ, _, h, _ => ⟨σ, rfl, h⟩
  | x :: xs, acc, σ, hn, h, k => by
    rw [List.length_cons] at hn
    obtain ⟨σ1, e1, σ2, e2⟩ := k x acc σ List.mem_cons_self (by omega) h
    unfold build
    rw [List.map_cons]
    cases hf : f x with
    | none =>
      rw [hf] at e2
      refine ⟨σ2, ?_⟩
      show forS p body (g x :: xs.map g) σ = _
      unfold forS
      rw [e1]
      simp only [e2]
    | some v =>
      rw [hf] at e2
      obtain ⟨e2, h2⟩ := e2
      obtain ⟨σ3, h3⟩ := forS_build n xs (acc ++ [v]) σ2 (by rw [List.length_append, List.length_singleton]; omega) h2 fun y acc' σ' hy => k y acc' σ' (List.mem_cons_of_mem _ hy)
      refine ⟨σ3, ?_⟩
      have e : forS p body (g x :: xs.map g) σ = forS p body (xs.map g) σ2 := by
        conv => lhs; unfold forS
        rw [e1]
        simp only [e2]
      simp only [e]
      exact h3
theorem build_all {α : Type} {f : α → Option D} {r : α → D} {Q : D → Prop} : ∀ (xs : List α) (acc : List D), (∀ d ∈ acc, Q d) → (∀ x ∈ xs, ∀ v, f x = some v → Q v) → match build f r xs acc with
    | .inl d => ∃ x ∈ xs, d = r x
    | .inr l => (∀ d ∈ l, Q d) ∧ l.length = acc.length + xs.length
  | [], acc, h, _ => ⟨h, by simp⟩
  | x :: xs, acc, h, k => by
    unfold build
    cases hf : f x with
    | none => exact ⟨x, List.mem_cons_self, rfl⟩
    | some v =>
      have ih := build_all (f := f) (r := r) (Q := Q) xs (acc ++ [v]) (fun d hd => by
        rcases List.mem_append.mp hd with q | q
        · exact h d q
        · rw [List.mem_singleton.mp q]; exact k x List.mem_cons_self v hf) fun y hy => k y (List.mem_cons_of_mem _ hy)
      simp only
      cases hb : build f r xs (acc ++ [v]) with
      | inl d =>
        rw [hb] at ih
        obtain ⟨y, hy, e⟩ := ih
        exact ⟨y, List.mem_cons_of_mem _ hy, e⟩
      | inr l =>
        rw [hb] at ih
        refine ⟨ih.1, ?_⟩
        rw [ih.2, List.length_append, List.length_singleton, List.length_cons]
        omega
theorem in_cellsT (p : Int × Int) (ps : List (Int × Int)) : inG (cellD p) (tupC ps) = .ok (.bool (decide (p ∈ ps))) := in_cells p ps
theorem neB (x y : Bool) : neD (.bool x) (.bool y) = .ok (.bool (!(x == y))) := by cases x <;> cases y <;> rfl
abbrev hsB (ps : List (Int × Int)) (b : Bool) (p : Int × Int) : Bool := !(decide (p ∈ ps) == b)
def dHas : List D → Res D := fnD 4 2 (sSeq (sAsg (gT 2 (gsCons (gN 2) (gsCons (gN 3) gsNil))) (eVar 0))
  (sRet (e2 neD (e2 inG (eVar 1) (eVar 2)) (eVar 3))))
theorem has_ok (ps : List (Int × Int)) (b : Bool) (p : Int × Int) : dHas [shp ps b, cellD p] = .ok (.bool (hsB ps b p)) := by
  have i := in_cells p ps
  generalize hp : cellD p = d at *
  unfold dHas
  walk_at "ev"
  rw [i]
  walk_at "ev"
  rw [neB]
  walk_at "ev"
def lawHas : List D → Res D := fnD 2 2 (sRet (e2 neD (e2 inG (eVar 1) (e2 ixD (eVar 0) (eC (.int 0)))) (e2 ixD (eVar 0) (eC (.int 1)))))
theorem lawHas_ok (ps : List (Int × Int)) (b : Bool) (p : Int × Int) : lawHas [shp ps b, cellD p] = .ok (.bool (hsB ps b p)) := by
  have i := in_cells p ps
  generalize hp : cellD p = d at *
  unfold lawHas
  walk_at "ev"
  rw [i]
  walk_at "ev"
  rw [neB]
  walk_at "ev"
end E3

namespace E3
open PySem PySem.Spec PyProof.Rows L2
local macro_rules | `(tactic| walk_at "ev") => `(tactic| try simp (disch := first | decide | decide +kernel | omega) only [fnD, startF, endF, sSeq, sAsg, sSet, sSetV, sAsgV, sIf, sRet, sNew, sNewV, sMut, sMutV, sFor, sForR, sFreeze, sNil, sExpr, optK, thenR_ok, thenR_exc, thenR_stuck,
  view, mask, E3.eVar_zero, E3.eVar_succ, eC, e1, e2, eCall, eTup, eLst, eSl, oNone, oSome, eAnd, eOr, eIf, E3.tAnd, E3.tOr, E3.tNot, E3.tB, asB, notD, aNil, aCons, Res.bind_ok, Res.bind_exc, Res.bind_stuck,
  gT, gsCons, gsNil, gN, tupD, lstD, Slot.dat, Slot.shd, List.length_cons, List.length_nil, List.map_cons, List.map_nil, List.replicate, List.append_nil, List.cons_append, List.nil_append, Option.map_some, Option.map_none, Option.bind_some, Option.bind_none,
  List.getElem?_cons_zero, List.getElem?_cons_succ, List.set_cons_zero, List.set_cons_succ, Nat.reduceAdd, Nat.reduceSub, Nat.reduceEqDiff, if_true, if_false, ite_true, ite_false, reduceIte, decide_true, decide_false, reduceCtorEq, Bool.not_true, Bool.not_false, Bool.false_eq_true, Bool.true_eq_false, Bool.or_true, Bool.true_or, Bool.false_or, Bool.or_false, Bool.and_true, Bool.and_false, Bool.true_and, Bool.false_and, addI, subI, ltI, leI, gtI, geI, eqI, neI, E3.negI, ix_cell0, ix_cell1, E3.le0, E3.le1, E3.le2, E3.le3, E3.le4, E3.le5, E3.le6, beq_self_eq_true, E3.divmodI, E3.modI, E3.fdivI, E3.powL, E3.mulLL, E3.isi_bool_none, E3.isi_bool_bool, E3.isi_bool_int, E3.isi_bool_str, E3.isi_bool_list, E3.isi_bool_tuple, E3.isi_int_none, E3.isi_int_bool, E3.isi_int_int, E3.isi_int_str, E3.isi_int_list, E3.isi_int_tuple, E3.isi_str_none, E3.isi_str_bool, E3.isi_str_int, E3.isi_str_str, E3.isi_str_list, E3.isi_str_tuple, E3.isi_list_none, E3.isi_list_bool, E3.isi_list_int, E3.isi_list_str, E3.isi_list_list, E3.isi_list_tuple, E3.isi_tuple_none, E3.isi_tuple_bool, E3.isi_tuple_int, E3.isi_tuple_str, E3.isi_tuple_list, E3.isi_tuple_tuple, E3.isN_none, E3.ntN_none, E3.isN_bool, E3.ntN_bool, E3.isN_int, E3.ntN_int, E3.isN_str, E3.ntN_str, E3.isN_list, E3.ntN_list, E3.isN_tuple, E3.ntN_tuple, E3.len_list, E3.len_tup, E3.seq_list, E3.seq_tup, E3.tup_list, E3.tup_tup, E3.lst_list, E3.lst_tup])
theorem nd_less {P : List (Int × Int)} (h : P.Nodup) (c : Int × Int) : (P.map (lessC c)).Nodup :=
  List.pairwise_map.mpr (h.imp fun {a b} ne e => ne (by
    have e1 : c.1 - a.1 = c.1 - b.1 := congrArg Prod.fst e
    have e2 : c.2 - a.2 = c.2 - b.2 := congrArg Prod.snd e
    exact Prod.ext (by omega) (by omega)))
theorem app_ok {acc : List D} {d : D} (h : acc.length < 1000) : appendM acc [d] = some (.none, acc ++ [d]) := by
  show (if acc.length < sizeLine then _ else _) = _
  rw [if_pos (Nat.lt_trans h (by decide))]
theorem good_cell (n : Nat) (p : Int × Int) : good (n + 1) (cellD p) := ⟨by show 2 ≤ _; rw [sizeLine_eq]; omega, fun x hx => by
    rcases List.mem_cons.mp hx with rfl | hx
    · cases n <;> exact trivial
    · rw [List.mem_singleton.mp hx]; cases n <;> exact trivial⟩
theorem good_up : ∀ (n : Nat) (d : D), good n d → good (n + 1) d := by
  intro n
  induction n with
  | zero => intro d h; cases d <;> first | exact h | exact h.elim
  | succ n ih =>
    intro d h
    cases d with
    | tuple xs => exact ⟨h.1, fun x hx => ih x (h.2 x hx)⟩
    | list xs => exact ⟨h.1, fun x hx => ih x (h.2 x hx)⟩
    | dict _ => exact h.elim
    | _ => exact h
theorem good_ups : ∀ (k n : Nat) (d : D), good n d → good (n + k) d
  | 0, _, _, h => h
  | k + 1, n, d, h => good_up _ _ (good_ups k n d h)
theorem good_two (n : Nat) (a b : D) (ha : good n a) (hb : good n b) : good (n + 1) (.tuple [a, b]) := ⟨by show 2 ≤ _; rw [sizeLine_eq]; omega, fun x hx => by
    rcases List.mem_cons.mp hx with rfl | hx
    · exact ha
    · rw [List.mem_singleton.mp hx]; exact hb⟩
theorem good_str (n : Nat) (s : Str) (h : SeqAt.shaped (.str s) = true) : good n (.str s) := by cases n <;> exact h
theorem srt_nil : srt [] = [] := List.eq_nil_iff_forall_not_mem.mpr fun p hp => by have := mem_srt.mp hp; cases this
theorem eq_nilL (l : List (Int × Int)) : eqD (.list (l.map cellD)) (.list []) = .ok (.bool (decide (l = []))) := eq_lists l []
theorem build_inr {α : Type} {f : α → Option D} {r : α → D} : ∀ (xs : List α) (acc l : List D), build f r xs acc = .inr l → ∀ x ∈ xs, (f x).isSome = true
  | [], _, _, _, _, h => nomatch h
  | x :: xs, acc, l, e, y, hy => by
    unfold build at e
    cases hf : f x with
    | none => rw [hf] at e; cases e
    | some v =>
      rw [hf] at e
      rcases List.mem_cons.mp hy with rfl | hy
      · rw [hf]; rfl
      · exact build_inr xs _ l e y hy
theorem build_first {α : Type} {r : α → D} {t : α → Bool} {v : D} : ∀ (xs : List α) (acc : List D) (x : α) (rest : List α), xs.filter (fun y => !t y) = x :: rest → build (fun y => if t y then some v else none) r xs acc = .inl (r x)
  | [], _, _, _, h => by cases h
  | y :: ys, acc, x, rest, h => by
    unfold build
    rw [List.filter_cons] at h
    cases ht : t y with
    | true =>
      rw [ht] at h
      simp only [if_true]
      exact build_first ys _ x rest (by simpa using h)
    | false =>
      rw [ht] at h
      simp only [Bool.not_false, if_true] at h
      injection h with h1 _
      rw [h1]; rfl
theorem plusC_comm (p q : Int × Int) : plusC p q = plusC q p := Prod.ext (Int.add_comm ..) (Int.add_comm ..)
theorem ltP_plus {p q : Int × Int} (c : Int × Int) (h : ltP p q) : ltP (plusC c p) (plusC c q) := by
  unfold ltP plusC at *
  simp only
  omega
theorem pw_plus {P : List (Int × Int)} (c : Int × Int) (h : P.Pairwise ltP) : (P.map (plusC c)).Pairwise ltP := List.pairwise_map.mpr (h.imp fun hp => ltP_plus c hp)
theorem leastC_pw {x : Int × Int} {l : List (Int × Int)} (h : (x :: l).Pairwise ltP) : leastC (x :: l) = x := by
  unfold leastC
  rw [srt_id h]; rfl
theorem bools_of (l : List Bool) : boolsOf (l.map PyData.bool) = some l := by
  induction l with
  | nil => rfl
  | cons b l ih =>
    rw [List.map_cons]
    unfold boolsOf
    rw [ih]
    rfl
theorem all_bools (l : List Bool) : allD [.list (l.map PyData.bool)] = .ok (.bool (l.all id)) := by
  show overB _ _ = _
  unfold overB
  simp only [bools_of]
theorem any_bools (l : List Bool) : anyD [.list (l.map PyData.bool)] = .ok (.bool (l.any id)) := by
  show overB _ _ = _
  unfold overB
  simp only [bools_of]
end E3

namespace H70
open PySem PySem.Spec PyProof.Rows L2 E3 
local macro_rules | `(tactic| walk_at "ev") => `(tactic| try simp (disch := first | decide | decide +kernel | omega) only [fnD, xOr, xNot, startF, endF, sSeq, sAsg, sSet, sSetV, sAsgV, sIf, sRet, sNew, sNewV, sMut, sMutV, sFor, sForR, sFreeze, sNil, sExpr, optK, thenR_ok, thenR_exc, thenR_stuck,
  view, mask, E3.eVar_zero, E3.eVar_succ, eC, e1, e2, eCall, eTup, eLst, eSl, oNone, oSome, eAnd, eOr, eIf, E3.tAnd, E3.tOr, E3.tNot, E3.tB, asB, notD, aNil, aCons, Res.bind_ok, Res.bind_exc, Res.bind_stuck,
  gT, gsCons, gsNil, gN, tupD, lstD, Slot.dat, Slot.shd, List.length_cons, List.length_nil, List.map_cons, List.map_nil, List.replicate, List.append_nil, List.cons_append, List.nil_append, Option.map_some, Option.map_none, Option.bind_some, Option.bind_none,
  List.getElem?_cons_zero, List.getElem?_cons_succ, List.set_cons_zero, List.set_cons_succ, Nat.reduceAdd, Nat.reduceSub, Nat.reduceEqDiff, if_true, if_false, ite_true, ite_false, reduceIte, decide_true, decide_false, reduceCtorEq, Bool.not_true, Bool.not_false, Bool.false_eq_true, Bool.true_eq_false, Bool.or_true, Bool.true_or, Bool.false_or, Bool.or_false, Bool.and_true, Bool.and_false, Bool.true_and, Bool.false_and, addI, subI, ltI, leI, gtI, geI, eqI, neI, E3.negI, ix_cell0, ix_cell1, E3.le0, E3.le1, E3.le2, E3.le3, E3.le4, E3.le5, E3.le6, beq_self_eq_true, Int.reduceBEq, E3.divmodI, E3.modI, E3.fdivI, E3.powL, E3.mulLL, E3.isi_bool_none, E3.isi_bool_bool, E3.isi_bool_int, E3.isi_bool_str, E3.isi_bool_list, E3.isi_bool_tuple, E3.isi_int_none, E3.isi_int_bool, E3.isi_int_int, E3.isi_int_str, E3.isi_int_list, E3.isi_int_tuple, E3.isi_str_none, E3.isi_str_bool, E3.isi_str_int, E3.isi_str_str, E3.isi_str_list, E3.isi_str_tuple, E3.isi_list_none, E3.isi_list_bool, E3.isi_list_int, E3.isi_list_str, E3.isi_list_list, E3.isi_list_tuple, E3.isi_tuple_none, E3.isi_tuple_bool, E3.isi_tuple_int, E3.isi_tuple_str, E3.isi_tuple_list, E3.isi_tuple_tuple, E3.isN_none, E3.ntN_none, E3.isN_bool, E3.ntN_bool, E3.isN_int, E3.ntN_int, E3.isN_str, E3.ntN_str, E3.isN_list, E3.ntN_list, E3.isN_tuple, E3.ntN_tuple, E3.len_list, E3.len_tup, E3.seq_list, E3.seq_tup, E3.tup_list, E3.tup_tup, E3.lst_list, E3.lst_tup, xM, xV, xB, xTB, x2, xAnd, xNil, xCons, xTup, xLst, xCall, xSl, xPotd, ownXd, potKd, ePotE, dropKV, fnPd, startPd, endPd, slL, eSlL, xPot, ownX, potK, XR.bind_ok, XR.bind_exc, XR.bind_stuck, XR.of_ok, XR.of_exc, XR.of_stuck, thenX_ok, thenX_exc, thenX_stuck, qSet, qRet, qIf, qAsg, qForR, qFor, H70.fR_i, H70.fR_b, H70.fR_ii, H70.fR_c, fnP, startP, endP, fnL, startL, endL, xPotL, xLast, fnN, endN, E3.ix_lst0, Int.cast_ofNat_Int])
local macro_rules | `(tactic| walk_at "evs") => `(tactic| try simp (disch := first | decide | decide +kernel | omega) only [fnD, xOr, xNot, startF, endF, sSeq, sAsg, sSet, sSetV, sAsgV, sIf, sRet, sNew, sNewV, sMut, sMutV, sFor, sForR, sFreeze, sNil, sExpr, optK, thenR_ok, thenR_exc, thenR_stuck,
  view, mask, E3.eVar_zero, E3.eVar_succ, eC, e1, e2, eCall, eTup, eLst, eSl, oNone, oSome, eAnd, eOr, eIf, E3.tAnd, E3.tOr, E3.tNot, E3.tB, asB, notD, aNil, aCons, Res.bind_ok, Res.bind_exc, Res.bind_stuck,
  gT, gsCons, gsNil, gN, tupD, lstD, Slot.dat, Slot.shd, List.length_cons, List.length_nil, List.map_cons, List.map_nil, List.replicate, List.append_nil, List.cons_append, List.nil_append, Option.map_some, Option.map_none, Option.bind_some, Option.bind_none,
  List.getElem?_cons_zero, List.getElem?_cons_succ, List.set_cons_zero, List.set_cons_succ, Nat.reduceAdd, Nat.reduceSub, Nat.reduceEqDiff, if_true, if_false, ite_true, ite_false, reduceIte, decide_true, decide_false, reduceCtorEq, Bool.not_true, Bool.not_false, Bool.false_eq_true, Bool.true_eq_false, Bool.or_true, Bool.true_or, Bool.false_or, Bool.or_false, Bool.and_true, Bool.and_false, Bool.true_and, Bool.false_and, addI, subI, ltI, leI, gtI, geI, eqI, neI, E3.negI, ix_cell0, ix_cell1, E3.le0, E3.le1, E3.le2, E3.le3, E3.le4, E3.le5, E3.le6, beq_self_eq_true, Int.reduceBEq, E3.divmodI, E3.modI, E3.fdivI, E3.powL, E3.mulLL, E3.isi_bool_none, E3.isi_bool_bool, E3.isi_bool_int, E3.isi_bool_str, E3.isi_bool_list, E3.isi_bool_tuple, E3.isi_int_none, E3.isi_int_bool, E3.isi_int_int, E3.isi_int_str, E3.isi_int_list, E3.isi_int_tuple, E3.isi_str_none, E3.isi_str_bool, E3.isi_str_int, E3.isi_str_str, E3.isi_str_list, E3.isi_str_tuple, E3.isi_list_none, E3.isi_list_bool, E3.isi_list_int, E3.isi_list_str, E3.isi_list_list, E3.isi_list_tuple, E3.isi_tuple_none, E3.isi_tuple_bool, E3.isi_tuple_int, E3.isi_tuple_str, E3.isi_tuple_list, E3.isi_tuple_tuple, E3.isN_none, E3.ntN_none, E3.isN_bool, E3.ntN_bool, E3.isN_int, E3.ntN_int, E3.isN_str, E3.ntN_str, E3.isN_list, E3.ntN_list, E3.isN_tuple, E3.ntN_tuple, E3.len_list, E3.len_tup, E3.seq_list, E3.seq_tup, E3.tup_list, E3.tup_tup, E3.lst_list, E3.lst_tup, xM, xV, xB, xTB, x2, xAnd, xNil, xCons, xTup, xLst, xCall, xSl, xPotd, ownXd, potKd, ePotE, dropKV, fnPd, startPd, endPd, slL, eSlL, xPot, ownX, potK, XR.bind_ok, XR.bind_exc, XR.bind_stuck, XR.of_ok, XR.of_exc, XR.of_stuck, thenX_ok, thenX_exc, thenX_stuck, qSet, qRet, qIf, qAsg, qForR, qFor, H70.fR_i, H70.fR_b, H70.fR_ii, H70.fR_c, fnP, startP, endP, fnL, startL, endL, xPotL, xLast, fnN, endN, E3.ix_lst0, Int.cast_ofNat_Int, *])
noncomputable section
def wt_AROUND : D := wtD [wtD [.int (-1), .int (-1)], wtD [.int (-1), .int (0)], wtD [.int (-1), .int (1)], wtD [.int (0), .int (-1)], wtD [.int (0), .int (1)], wtD [.int (1), .int (-1)], wtD [.int (1), .int (0)], wtD [.int (1), .int (1)]]
def wt_SIDES : D := wtD [wtD [.int (-1), .int (0)], wtD [.int (0), .int (-1)], wtD [.int (0), .int (1)], wtD [.int (1), .int (0)]]
def I_law_fallen_1 : DS → Res (List D) := (fun σ => ((eVar 0) σ).bind seqOf)
def C_law_fallen_1 : SF := (sSeq (sPopD 2 (aCons (eVar 9) aNil))
  (sMut 5 appendM (aCons (eVar 9) aNil)))
def I_law_fallen_2 : DS → Res (List D) := (fun σ => ((eTup (aCons (e1 negD (eC (.int 1))) (aCons (eC (.int 0)) (aCons (eC (.int 1)) aNil)))) σ).bind seqOf)
def B_law_fallen_1 : SF := (sSeq (sSetV 9 (eTup (aCons (e2 addD (e2 ixD (e2 ixD (eVar 5) (eVar 6)) (eC (.int 0))) (eVar 7)) (aCons (e2 addD (e2 ixD (e2 ixD (eVar 5) (eVar 6)) (eC (.int 1))) (eVar 8)) aNil))))
  (sIf (E3.tAnd (tB (e2 inG (eVar 9) (eVar 2))) (E3.tNot (E3.tAnd (E3.tB (eVar 1)) (tB (e2 neD (e2 mulD (eVar 7) (eVar 8)) (eC (.int 0))))))) C_law_fallen_1 sNil))
def I_law_fallen_3 : DS → Res (List D) := (fun σ => ((eTup (aCons (e1 negD (eC (.int 1))) (aCons (eC (.int 0)) (aCons (eC (.int 1)) aNil)))) σ).bind seqOf)
def B_law_fallen_2 : SF := (sFor I_law_fallen_2 (gN 8)
  B_law_fallen_1)
def B_law_fallen_3 : SF := (sSeq (sFor I_law_fallen_3 (gN 7)
  B_law_fallen_2)
  (sSet 6 (e2 addD (eVar 6) (eC (.int 1)))))
def C_law_fallen_2 : SF := (sSeq (sNew 5 (eLst (aCons (eVar 3) aNil)))
  (sSeq (sPopD 2 (aCons (eVar 3) aNil))
  (sSeq (sSet 6 (eC (.int 0)))
  (sSeq (sWhile (tB (e2 ltD (eVar 6) (eCall lenD (aCons (eVar 5) aNil))))
  B_law_fallen_3)
  (sFreeze 5 (sMut 4 appendM (aCons (eCall tupleD (aCons (eCall sortedD (aCons (eVar 5) aNil)) aNil)) aNil)))))))
def I_law_fallen_4 (S : List D → Res D) : DS → Res (List D) := (fun σ => ((eCall S (aCons (eVar 0) aNil)) σ).bind seqOf)
def T_law_fallen_1 (S : List D → Res D) : SF := (sSeq (sNew 4 (eLst aNil))
  (sSeq (sFor (I_law_fallen_4 S) (gN 3)
  (sIf (tB (e2 inG (eVar 3) (eVar 2))) C_law_fallen_2 sNil))
  (sFreeze 2 (sFreeze 4 (sRet (eVar 4))))))
def D_law_fallen (S : List D → Res D) : List D → Res D := fnD 10 2 (sSeq (sNew 2 (eC (.dict [])))
  (sSeq (sFor I_law_fallen_1 (gN 3)
  (sPut 2 (eVar 3) (eC (.bool true))))
  (T_law_fallen_1 S)))
def I_noted_1 : DS → Res (List D) := (fun σ => ((eVar 0) σ).bind seqOf)
def D_noted : List D → Res D := fnN 3 1 (sSeq (sNew 1 (eC (.dict [])))
  (sSeq (sFor I_noted_1 (gN 2)
  (qPut 1 (xM (eVar 2)) (eC (.bool true))))
  (qRetO 1)))
def C_flooded_1 : SF := (sSeq (qPopD 0 (xCons (xM (eVar 6)) xNil))
  (qMut 3 appendM (xCons (xM (eVar 6)) xNil)))
def I_flooded_1 : DS → Res (List D) := (fun σ => ((eVar 2) σ).bind seqOf)
def B_flooded_1 : SF := (sSeq (qSet 6 (xV (eTup (aCons (e2 addD (e2 ixD (e2 ixD (eVar 3) (eVar 4)) (eC (.int 0))) (e2 ixD (eVar 5) (eC (.int 0)))) (aCons (e2 addD (e2 ixD (e2 ixD (eVar 3) (eVar 4)) (eC (.int 1))) (e2 ixD (eVar 5) (eC (.int 1)))) aNil)))))
  (qIf (xB (tB (e2 inG (eVar 6) (eVar 0)))) C_flooded_1 sNil))
def B_flooded_2 : SF := (sSeq (sFor I_flooded_1 (gN 5)
  B_flooded_1)
  (qSet 4 (xM (e2 addD (eVar 4) (eC (.int 1))))))
def D_flooded : PFd := fnPd 7 3 (sSeq (sNew 3 (eLst (aCons (eVar 1) aNil)))
  (sSeq (qPopD 0 (xCons (xM (eVar 1)) xNil))
  (sSeq (qSet 4 (xM (eC (.int 0))))
  (sSeq (sWhile (tB (e2 ltD (eVar 4) (eCall lenD (aCons (eVar 3) aNil))))
  B_flooded_2)
  (sFreeze 3 (qRet (xM (eVar 3))))))))
def C_regions_1 : SF := (qMut 3 appendM (xCons (xCall tupleD (xCons (xCall sortedD (xCons (xPotd 2 D_flooded (xCons (xM (eVar 4)) (xCons (xM (eVar 1)) xNil))) xNil)) xNil)) xNil))
def I_regions_1 : DS → Res (List D) := (fun σ => ((eVar 0) σ).bind seqOf)
def D_regions : List D → Res D := fnN 5 2 (sSeq (sNew 2 (eCall D_noted (aCons (eVar 0) aNil)))
  (sSeq (sNew 3 (eLst aNil))
  (sSeq (sFor I_regions_1 (gN 4)
  (qIf (xB (tB (e2 inG (eVar 4) (eVar 2)))) C_regions_1 sNil))
  (sFreeze 2 (qRetO 3)))))
abbrev wt2 (p : Pt) : D := wtD [.int p.1, .int p.2]
theorem wt2_0 (p : Pt) : ixD (wt2 p) (.int 0) = .ok (.int p.1) := rfl
theorem wt2_1 (p : Pt) : ixD (wt2 p) (.int 1) = .ok (.int p.2) := rfl
theorem in_dct (p : Pt) (ps : List Pt) : inG (cellD p) (.dict (dctT ps)) = .ok (.bool (decide (p ∈ ps))) := by
  have h0 : obK (dctT ps) = false := by cases ps <;> rfl
  show (if obK (dctT ps) then Res.stuck else match E3.keyOf (cellD p) with
    | some ns => Res.ok (PyData.bool (valK (dctT ps) ns).isSome)
    | none => .stuck) = _
  rw [h0, key_cell, if_neg Bool.false_ne_true]
  show Res.ok (PyData.bool (valK (dctT ps) (kOf p)).isSome) = _
  rw [val_has]
  exact congrArg (fun b => Res.ok (PyData.bool b)) (dct_any ps p)
theorem notIn_dct (p : Pt) (ps : List Pt) : notInG (cellD p) (.dict (dctT ps)) = .ok (.bool (!decide (p ∈ ps))) := by
  have h0 : obK (dctT ps) = false := by cases ps <;> rfl
  show (if obK (dctT ps) then Res.stuck else match E3.keyOf (cellD p) with
    | some ns => Res.ok (PyData.bool (!(valK (dctT ps) ns).isSome))
    | none => .stuck) = _
  rw [h0, key_cell, if_neg Bool.false_ne_true]
  show Res.ok (PyData.bool (!(valK (dctT ps) (kOf p)).isSome)) = _
  rw [val_has]
  exact congrArg (fun b => Res.ok (PyData.bool (!b))) (dct_any ps p)
theorem drop_dct (ps : List Pt) (p : Pt) : dropD (dctT ps) (kOf p) = dctT (ps.filter fun x => decide (x ≠ p)) := by
  unfold dropD dctT
  rw [List.filter_map]
  congr 1
  refine List.filter_congr fun x _ => ?_
  show decide (E3.keyOf (cellD x) ≠ some (kOf p)) = _
  rw [key_cell]
  exact decide_eq_decide.mpr ⟨fun h e => h (by rw [e]), fun h e => h (kOf_eq.mp (Option.some.inj e))⟩
theorem pop_dct {i : Nat} {σ : SS} {ps : List Pt} {p : Pt} {g : D → SS → SR} (h : p ∈ ps) : popK i σ (dctT ps) (cellD p) g = g (.bool true) (σ.set i (some (.ow (.dict (dctT (ps.filter fun x => decide (x ≠ p))))))) := by
  unfold popK
  rw [key_cell]
  have hv : valK (dctT ps) (kOf p) = some (.bool true) := by
    have hs : (valK (dctT ps) (kOf p)).isSome = true := by
      rw [val_has]
      exact (dct_any ps p).trans (decide_eq_true h)
    unfold valK at hs ⊢
    cases z : (dctT ps).find? fun q => decide (E3.keyOf q.1 = some (kOf p)) with
    | none => rw [z] at hs; cases hs
    | some e =>
      have := List.mem_of_find?_eq_some z
      obtain ⟨q, _, rfl⟩ := List.mem_map.mp this
      rfl
  show (match valK (dctT ps) (kOf p) with
    | some d => g d (σ.set i (some (.ow (.dict (dropD (dctT ps) (kOf p))))))
    | none => .stuck) = _
  rw [hv, drop_dct]
theorem ix_lst {l : List Pt} {k : Nat} {c : Pt} (h : l[k]? = some c) : ixD (.list (l.map cellD)) (.int (k : Nat)) = .ok (cellD c) := (ix_at (by rw [List.getElem?_map, h]; rfl)).2
theorem view_d7 (a b c d e f g : Option Slot) : view [a, b, c, d, e, f, g] = [a.map Slot.dat, b.map Slot.dat, c.map Slot.dat, d.map Slot.dat, e.map Slot.dat, f.map Slot.dat, g.map Slot.dat] := rfl
theorem app_cells {l : List Pt} {p : Pt} (h : l.length < 1000000) : appendM (l.map cellD) [cellD p] = some (.none, (l ++ [p]).map cellD) := by
  show (if (l.map cellD).length < sizeLine then some (PyData.none, l.map cellD ++ [cellD p]) else none) = _
  rw [if_pos (by rw [List.length_map, sizeLine_eq]; omega), List.map_append]
  rfl
theorem app_any {l : List D} {p : D} (h : l.length < 1000000) : appendM l [p] = some (.none, l ++ [p]) := by
  show (if l.length < sizeLine then some (PyData.none, l ++ [p]) else none) = _
  rw [if_pos (by rw [sizeLine_eq]; omega)]
theorem forS_cons {p : GF} {body : SF} {d : D} {ds : List D} {σ σ1 σ2 : SS} (h1 : p d σ = some σ1) (h2 : body σ1 = .ok .nx σ2) : forS p body (d :: ds) σ = forS p body ds σ2 := by
  rw [forS]
  simp only [h1, h2]
theorem forS_ct {p : GF} {body : SF} {d : D} {ds : List D} {σ σ1 σ2 : SS} (h1 : p d σ = some σ1) (h2 : body σ1 = .ok .ct σ2) : forS p body (d :: ds) σ = forS p body ds σ2 := by
  rw [forS]
  simp only [h1, h2]
theorem forS_rt {p : GF} {body : SF} {d v : D} {ds : List D} {σ σ1 σ2 : SS} (h1 : p d σ = some σ1) (h2 : body σ1 = .ok (.rt v) σ2) : forS p body (d :: ds) σ = .ok (.rt v) σ2 := by
  rw [forS]
  simp only [h1, h2]
theorem whS_go {p : DS → Res Bool} {g : SF} {n : Nat} {σ σ2 : SS} (h1 : p (view σ) = .ok true) (h2 : g σ = .ok .nx σ2) : whS p g (n + 1) σ = whS p g n σ2 := by
  show thenR (p (view σ)) σ _ = _
  rw [h1]
  simp only [thenR_ok, h2, if_true]
theorem whS_stop {p : DS → Res Bool} {g : SF} {n : Nat} {σ : SS} (h1 : p (view σ) = .ok false) : whS p g (n + 1) σ = .ok .nx σ := by
  show thenR (p (view σ)) σ _ = _
  rw [h1]
  rfl
abbrev s7 (s : List Pt × List Pt) (a1 a2 : Option Slot) (k : Int) (x5 x6 : Option Slot) : SS := [some (.ow (.dict (dctT s.1))), a1, a2, some (.ow (.list (s.2.map cellD))), some (.sh (.int k)), x5, x6]
theorem near_turn (s : List Pt × List Pt) (a1 a2 x6 : Option Slot) (k : Nat) (c st : Pt) (hk : s.2[k]? = some c) (hl : s.2.length < 100000) :
    B_flooded_1 (s7 s a1 a2 (k : Nat) (some (.sh (wt2 st))) x6) = .ok .nx (s7 (takeN c s st) a1 a2 (k : Nat) (some (.sh (wt2 st))) (some (.sh (cellD (plusC c st))))) := by
  unfold B_flooded_1
  walk_at "ev"
  rw [ix_lst hk]
  walk_at "ev"
  rw [wt2_0, wt2_1]
  walk_at "ev"
  rw [show (PyData.tuple [.int (c.1 + st.1), .int (c.2 + st.2)]) = cellD (plusC c st) from rfl, in_dct]
  walk_at "ev"
  unfold takeN
  by_cases e : plusC c st ∈ s.1
  · rw [decide_eq_true e, if_pos rfl, if_pos e]
    unfold C_flooded_1
    simp only [sSeq, qPopD, ownD, List.getElem?_cons_zero]
    walk_at "ev"
    rw [pop_dct e]
    simp only [qMut, ownL, List.getElem?_cons_succ, List.getElem?_cons_zero]
    walk_at "ev"
    rw [app_cells (by omega)]
    rfl
  · rw [decide_eq_false e, if_neg Bool.false_ne_true, if_neg e]
theorem near_turns (a1 a2 : Option Slot) (k : Nat) (c : Pt) : ∀ (steps : List Pt) (s : List Pt × List Pt) (x5 x6 : Option Slot), s.2[k]? = some c → s.2.length + steps.length < 100000 →
    ∃ y5 y6, forS (gN 5) B_flooded_1 (steps.map wt2) (s7 s a1 a2 (k : Nat) x5 x6) = .ok .nx (s7 (stepAll c steps s) a1 a2 (k : Nat) y5 y6)
  | [], s, x5, x6, _, _ => ⟨x5, x6, rfl⟩
  | st :: r, s, x5, x6, hk, hl => by
    rw [List.length_cons] at hl
    obtain ⟨more, em⟩ := (take_sub (c := c) (st := st) (s := s)).2
    have hk2 : (takeN c s st).2[k]? = some c := by rw [em, List.getElem?_append_left (List.getElem?_eq_some_iff.mp hk).1]; exact hk
    have hl2 : (takeN c s st).2.length ≤ s.2.length + 1 := by
      unfold takeN
      split
      · show (s.2 ++ [_]).length ≤ _; rw [List.length_append]; exact Nat.le_refl _
      · omega
    obtain ⟨y5, y6, e⟩ := near_turns a1 a2 k c r (takeN c s st) (some (.sh (wt2 st))) (some (.sh (cellD (plusC c st)))) hk2 (by omega)
    refine ⟨y5, y6, ?_⟩
    exact (forS_cons (σ1 := s7 s a1 a2 (k : Nat) (some (.sh (wt2 st))) x6) rfl (near_turn s a1 a2 x6 k c st hk (by omega))).trans e
theorem wh_test (s : List Pt × List Pt) (a1 a2 : Option Slot) (k : Nat) (x5 x6 : Option Slot) : (tB (e2 ltD (eVar 4) (eCall lenD (aCons (eVar 3) aNil)))) (view (s7 s a1 a2 (k : Nat) x5 x6)) = .ok (decide (k < s.2.length)) := by
  walk_at "ev"
  rw [List.length_map]
  exact congrArg Res.ok (decide_eq_decide.mpr (by omega))
theorem flo_run {steps : List Pt} {stD : D} (hst : seqOf stD = .ok (steps.map wt2)) (hs : steps.length < 1000) (a1 : Option Slot) {L : List Pt} (hL : L.length < 90000) : ∀ (n : Nat) (s : List Pt × List Pt) (k : Nat) (x5 x6 : Option Slot), FI L s → k ≤ s.2.length → L.length + 1 ≤ n + k →
    ∃ k2 y5 y6, whS (tB (e2 ltD (eVar 4) (eCall lenD (aCons (eVar 3) aNil)))) B_flooded_2 n (s7 s a1 (some (.sh stD)) (k : Nat) x5 x6) = .ok .nx (s7 (flo steps n s k) a1 (some (.sh stD)) k2 y5 y6)
  | 0, s, k, _, _, h, hk, hn => by
    have := h.len
    omega
  | n + 1, s, k, x5, x6, h, hk, hn => by
    have hls := h.len
    unfold flo
    cases q : s.2[k]? with
    | none =>
      have hk2 : s.2.length ≤ k := List.getElem?_eq_none_iff.mp q
      exact ⟨_, x5, x6, whS_stop (by rw [wh_test, decide_eq_false (by omega)])⟩
    | some c =>
      have hk2 : k < s.2.length := (List.getElem?_eq_some_iff.mp q).1
      obtain ⟨y5, y6, e⟩ := near_turns a1 (some (.sh stD)) k c steps s x5 x6 q (by omega)
      obtain ⟨more, em⟩ := (step_sub (c := c) (steps := steps) (s := s)).2
      have hb : B_flooded_2 (s7 s a1 (some (.sh stD)) (k : Nat) x5 x6) = .ok .nx (s7 (stepAll c steps s) a1 (some (.sh stD)) ((k + 1 : Nat) : Int) y5 y6) := by
        unfold B_flooded_2 I_flooded_1
        walk_at "ev"
        rw [hst]
        walk_at "ev"
        rw [e]
        walk_at "ev"
        rfl
      obtain ⟨k2, z5, z6, f2⟩ := flo_run hst hs a1 hL n (stepAll c steps s) (k + 1) y5 y6 (h.step c) (by rw [em, List.length_append]; omega) (by omega)
      exact ⟨k2, z5, z6, (whS_go (by rw [wh_test, decide_eq_true hk2]) hb).trans f2⟩
theorem flooded_ok {steps : List Pt} {stD : D} (hst : seqOf stD = .ok (steps.map wt2)) (hs : steps.length < 1000) {L : List Pt} (nd : L.Nodup) (hL : L.length < 90000) {c : Pt} (hc : c ∈ L) :
    D_flooded (dctT L) [cellD c, stD] = .ok (.list ((flood steps L c).2.map cellD), dctT (flood steps L c).1) := by
  have f0 := FI.start nd hc
  obtain ⟨k2, y5, y6, e⟩ := flo_run hst hs (some (.sh (cellD c))) hL (L.length + 1) (L.filter (fun x => decide (x ≠ c)), [c]) 0 none none f0 (Nat.zero_le _) (by omega)
  have f2 : sWhile (tB (e2 ltD (eVar 4) (eCall lenD (aCons (eVar 3) aNil)))) B_flooded_2 [some (.ow (.dict (dctT (L.filter (fun x => decide (x ≠ c)))))), some (.sh (cellD c)), some (.sh stD), some (.ow (.list [cellD c])), some (.sh (.int 0)), none, none] = _ := sWhile_of e (fun z => by cases z)
  unfold D_flooded
  walk_at "ev"
  simp only [qPopD, ownD, List.getElem?_cons_zero]
  walk_at "ev"
  rw [pop_dct hc]
  walk_at "ev"
  rw [f2]
  walk_at "ev"
  rfl
theorem noted_turns (a0 : Option Slot) : ∀ (ps L : List Pt) (x2 : Option Slot), (L ++ ps).Nodup → (L ++ ps).length < 900000 → ∃ y2, forS (gN 2) (qPut 1 (xM (eVar 2)) (eC (.bool true))) (ps.map cellD) [a0, some (.ow (.dict (dctT L))), x2] = .ok .nx [a0, some (.ow (.dict (dctT (L ++ ps)))), y2]
  | [], L, x2, _, _ => ⟨x2, by rw [List.append_nil]; rfl⟩
  | p :: r, L, x2, nd, hl => by
    have np : p ∉ L := fun z => (List.nodup_append.mp nd).2.2 p z p List.mem_cons_self rfl
    have e1 : addC L p = L ++ [p] := if_neg np
    obtain ⟨y2, e⟩ := noted_turns a0 r (L ++ [p]) (some (.sh (cellD p))) (by rw [List.append_assoc]; exact nd) (by rw [List.append_assoc]; exact hl)
    rw [List.append_assoc] at e
    refine ⟨y2, ?_⟩
    have hb : qPut 1 (xM (eVar 2)) (eC (.bool true)) [a0, some (.ow (.dict (dctT L))), some (.sh (cellD p))] = .ok .nx [a0, some (.ow (.dict (dctT (L ++ [p])))), some (.sh (cellD p))] := by
      simp only [qPut, ownD, List.getElem?_cons_succ, List.getElem?_cons_zero]
      walk_at "ev"
      rw [putS_dct (by rw [sizeLine_eq]; rw [List.length_append] at hl; omega), e1]
      rfl
    exact (forS_cons (σ1 := [a0, some (.ow (.dict (dctT L))), some (.sh (cellD p))]) rfl hb).trans e
theorem noted_ok {ps : List Pt} {d : D} (hd : seqOf d = .ok (ps.map cellD)) (nd : ps.Nodup) (hl : ps.length < 900000) : D_noted [d] = .ok (.dict (dctT ps)) := by
  obtain ⟨y2, e⟩ := noted_turns (some (.sh d)) ps [] none (by simpa using nd) (by simpa using hl)
  unfold D_noted I_noted_1
  walk_at "ev"
  rw [hd]
  walk_at "ev"
  rw [show (PyData.dict []) = .dict (dctT []) from rfl, e]
  walk_at "ev"
  rfl
theorem sort_cells {ps : List Pt} (hn : ps.Nodup) (hl : ps.length ≤ 900000) : sortedD [.list (ps.map cellD)] = .ok (.list ((srt ps).map cellD)) := sort_srt ps (by rw [sizeLine_eq]; omega) hn
abbrev s5r (d a1 : D) (L : List Pt) (acc : List (List Pt)) (x4 : Option Slot) : SS := [some (.sh d), some (.sh a1), some (.ow (.dict (dctT L))), some (.ow (.list (acc.map tupC))), x4]
theorem regs_turns {steps : List Pt} {stD : D} (hst : seqOf stD = .ok (steps.map wt2)) (hs : steps.length < 1000) (d : D) : ∀ (cs L : List Pt) (acc : List (List Pt)) (x4 : Option Slot), L.Nodup → L.length < 90000 → acc.length + cs.length < 100000 →
    ∃ M y4, forS (gN 4) (qIf (xB (tB (e2 inG (eVar 4) (eVar 2)))) C_regions_1 sNil) (cs.map cellD) (s5r d stD L acc x4) = .ok .nx (s5r d stD M (regs steps cs L acc) y4)
  | [], L, acc, x4, _, _, _ => ⟨L, x4, rfl⟩
  | c :: cs, L, acc, x4, nd, hl, ha => by
    rw [List.length_cons] at ha
    have key : ∃ (M : List Pt) (acc2 : List (List Pt)), qIf (xB (tB (e2 inG (eVar 4) (eVar 2)))) C_regions_1 sNil (s5r d stD L acc (some (.sh (cellD c)))) = .ok .nx (s5r d stD M acc2 (some (.sh (cellD c)))) ∧ M.Nodup ∧ M.length < 90000 ∧ acc2.length ≤ acc.length + 1 ∧ regs steps (c :: cs) L acc = regs steps cs M acc2 := by
      walk_at "ev"
      rw [in_dct]
      walk_at "ev"
      by_cases e : c ∈ L
      · obtain ⟨f1, f2⟩ := flood_ok (steps := steps) nd e
        have hfl := f1.len
        refine ⟨(flood steps L c).1, acc ++ [srt (flood steps L c).2], ?_, f1.n1, by omega, by rw [List.length_append]; exact Nat.le_refl _, by rw [regs, if_pos e]⟩
        rw [decide_eq_true e, if_pos rfl]
        unfold C_regions_1
        simp only [qMut, ownL, List.getElem?_cons_succ, List.getElem?_cons_zero]
        walk_at "ev"
        rw [flooded_ok hst hs nd hl e]
        walk_at "ev"
        rw [sort_cells f1.n2 (by omega)]
        walk_at "ev"
        rw [app_any (by rw [List.length_map]; omega)]
        simp only [s5r, List.map_append]
        rfl
      · refine ⟨L, acc, ?_, nd, hl, by omega, by rw [regs, if_neg e]⟩
        rw [decide_eq_false e]
        rfl
    obtain ⟨M, acc2, e, n2, l2, a2, er⟩ := key
    obtain ⟨M2, y4, f2⟩ := regs_turns hst hs d cs M acc2 (some (.sh (cellD c))) n2 l2 (by omega)
    refine ⟨M2, y4, ?_⟩
    rw [er]
    exact (forS_cons (σ1 := s5r d stD L acc (some (.sh (cellD c)))) rfl e).trans f2
theorem regions_ok {steps : List Pt} {stD : D} (hst : seqOf stD = .ok (steps.map wt2)) (hs : steps.length < 1000) {ps : List Pt} {d : D} (hd : seqOf d = .ok (ps.map cellD)) (nd : ps.Nodup) (hl : ps.length < 90000) :
    D_regions [d, stD] = .ok (.list ((regs steps ps ps []).map tupC)) := by
  obtain ⟨M, y4, e⟩ := regs_turns hst hs d ps ps [] none nd hl (by simp; omega)
  unfold D_regions I_regions_1
  walk_at "ev"
  rw [noted_ok hd nd (by omega)]
  walk_at "ev"
  rw [hd]
  walk_at "ev"
  rw [show (PyData.list []) = .list (([] : List (List Pt)).map tupC) from rfl, e]
  walk_at "ev"
  rfl
end
end H70

namespace H70
open PySem PySem.Spec PyProof.Rows L2 E3 
local macro_rules | `(tactic| walk_at "ev") => `(tactic| try simp (disch := first | decide | decide +kernel | omega) only [fnD, xOr, xNot, startF, endF, sSeq, sAsg, sSet, sSetV, sAsgV, sIf, sRet, sNew, sNewV, sMut, sMutV, sFor, sForR, sFreeze, sNil, sExpr, optK, thenR_ok, thenR_exc, thenR_stuck,
  view, mask, E3.eVar_zero, E3.eVar_succ, eC, e1, e2, eCall, eTup, eLst, eSl, oNone, oSome, eAnd, eOr, eIf, E3.tAnd, E3.tOr, E3.tNot, E3.tB, asB, notD, aNil, aCons, Res.bind_ok, Res.bind_exc, Res.bind_stuck,
  gT, gsCons, gsNil, gN, tupD, lstD, Slot.dat, Slot.shd, List.length_cons, List.length_nil, List.map_cons, List.map_nil, List.replicate, List.append_nil, List.cons_append, List.nil_append, Option.map_some, Option.map_none, Option.bind_some, Option.bind_none,
  List.getElem?_cons_zero, List.getElem?_cons_succ, List.set_cons_zero, List.set_cons_succ, Nat.reduceAdd, Nat.reduceSub, Nat.reduceEqDiff, if_true, if_false, ite_true, ite_false, reduceIte, decide_true, decide_false, reduceCtorEq, Bool.not_true, Bool.not_false, Bool.false_eq_true, Bool.true_eq_false, Bool.or_true, Bool.true_or, Bool.false_or, Bool.or_false, Bool.and_true, Bool.and_false, Bool.true_and, Bool.false_and, addI, subI, ltI, leI, gtI, geI, eqI, neI, E3.negI, ix_cell0, ix_cell1, E3.le0, E3.le1, E3.le2, E3.le3, E3.le4, E3.le5, E3.le6, beq_self_eq_true, Int.reduceBEq, E3.divmodI, E3.modI, E3.fdivI, E3.powL, E3.mulLL, E3.isi_bool_none, E3.isi_bool_bool, E3.isi_bool_int, E3.isi_bool_str, E3.isi_bool_list, E3.isi_bool_tuple, E3.isi_int_none, E3.isi_int_bool, E3.isi_int_int, E3.isi_int_str, E3.isi_int_list, E3.isi_int_tuple, E3.isi_str_none, E3.isi_str_bool, E3.isi_str_int, E3.isi_str_str, E3.isi_str_list, E3.isi_str_tuple, E3.isi_list_none, E3.isi_list_bool, E3.isi_list_int, E3.isi_list_str, E3.isi_list_list, E3.isi_list_tuple, E3.isi_tuple_none, E3.isi_tuple_bool, E3.isi_tuple_int, E3.isi_tuple_str, E3.isi_tuple_list, E3.isi_tuple_tuple, E3.isN_none, E3.ntN_none, E3.isN_bool, E3.ntN_bool, E3.isN_int, E3.ntN_int, E3.isN_str, E3.ntN_str, E3.isN_list, E3.ntN_list, E3.isN_tuple, E3.ntN_tuple, E3.len_list, E3.len_tup, E3.seq_list, E3.seq_tup, E3.tup_list, E3.tup_tup, E3.lst_list, E3.lst_tup, xM, xV, xB, xTB, x2, xAnd, xNil, xCons, xTup, xLst, xCall, xSl, xPotd, ownXd, potKd, ePotE, dropKV, fnPd, startPd, endPd, slL, eSlL, xPot, ownX, potK, XR.bind_ok, XR.bind_exc, XR.bind_stuck, XR.of_ok, XR.of_exc, XR.of_stuck, thenX_ok, thenX_exc, thenX_stuck, qSet, qRet, qIf, qAsg, qForR, qFor, H70.fR_i, H70.fR_b, H70.fR_ii, H70.fR_c, fnP, startP, endP, fnL, startL, endL, xPotL, xLast, fnN, endN, E3.ix_lst0, Int.cast_ofNat_Int])
local macro_rules | `(tactic| walk_at "evs") => `(tactic| try simp (disch := first | decide | decide +kernel | omega) only [fnD, xOr, xNot, startF, endF, sSeq, sAsg, sSet, sSetV, sAsgV, sIf, sRet, sNew, sNewV, sMut, sMutV, sFor, sForR, sFreeze, sNil, sExpr, optK, thenR_ok, thenR_exc, thenR_stuck,
  view, mask, E3.eVar_zero, E3.eVar_succ, eC, e1, e2, eCall, eTup, eLst, eSl, oNone, oSome, eAnd, eOr, eIf, E3.tAnd, E3.tOr, E3.tNot, E3.tB, asB, notD, aNil, aCons, Res.bind_ok, Res.bind_exc, Res.bind_stuck,
  gT, gsCons, gsNil, gN, tupD, lstD, Slot.dat, Slot.shd, List.length_cons, List.length_nil, List.map_cons, List.map_nil, List.replicate, List.append_nil, List.cons_append, List.nil_append, Option.map_some, Option.map_none, Option.bind_some, Option.bind_none,
  List.getElem?_cons_zero, List.getElem?_cons_succ, List.set_cons_zero, List.set_cons_succ, Nat.reduceAdd, Nat.reduceSub, Nat.reduceEqDiff, if_true, if_false, ite_true, ite_false, reduceIte, decide_true, decide_false, reduceCtorEq, Bool.not_true, Bool.not_false, Bool.false_eq_true, Bool.true_eq_false, Bool.or_true, Bool.true_or, Bool.false_or, Bool.or_false, Bool.and_true, Bool.and_false, Bool.true_and, Bool.false_and, addI, subI, ltI, leI, gtI, geI, eqI, neI, E3.negI, ix_cell0, ix_cell1, E3.le0, E3.le1, E3.le2, E3.le3, E3.le4, E3.le5, E3.le6, beq_self_eq_true, Int.reduceBEq, E3.divmodI, E3.modI, E3.fdivI, E3.powL, E3.mulLL, E3.isi_bool_none, E3.isi_bool_bool, E3.isi_bool_int, E3.isi_bool_str, E3.isi_bool_list, E3.isi_bool_tuple, E3.isi_int_none, E3.isi_int_bool, E3.isi_int_int, E3.isi_int_str, E3.isi_int_list, E3.isi_int_tuple, E3.isi_str_none, E3.isi_str_bool, E3.isi_str_int, E3.isi_str_str, E3.isi_str_list, E3.isi_str_tuple, E3.isi_list_none, E3.isi_list_bool, E3.isi_list_int, E3.isi_list_str, E3.isi_list_list, E3.isi_list_tuple, E3.isi_tuple_none, E3.isi_tuple_bool, E3.isi_tuple_int, E3.isi_tuple_str, E3.isi_tuple_list, E3.isi_tuple_tuple, E3.isN_none, E3.ntN_none, E3.isN_bool, E3.ntN_bool, E3.isN_int, E3.ntN_int, E3.isN_str, E3.ntN_str, E3.isN_list, E3.ntN_list, E3.isN_tuple, E3.ntN_tuple, E3.len_list, E3.len_tup, E3.seq_list, E3.seq_tup, E3.tup_list, E3.tup_tup, E3.lst_list, E3.lst_tup, xM, xV, xB, xTB, x2, xAnd, xNil, xCons, xTup, xLst, xCall, xSl, xPotd, ownXd, potKd, ePotE, dropKV, fnPd, startPd, endPd, slL, eSlL, xPot, ownX, potK, XR.bind_ok, XR.bind_exc, XR.bind_stuck, XR.of_ok, XR.of_exc, XR.of_stuck, thenX_ok, thenX_exc, thenX_stuck, qSet, qRet, qIf, qAsg, qForR, qFor, H70.fR_i, H70.fR_b, H70.fR_ii, H70.fR_c, fnP, startP, endP, fnL, startL, endL, xPotL, xLast, fnN, endN, E3.ix_lst0, Int.cast_ofNat_Int, *])
noncomputable section
def aroundL : List Pt := [(-1, -1), (-1, 0), (-1, 1), (0, -1), (0, 1), (1, -1), (1, 0), (1, 1)]
def sidesL : List Pt := [(-1, 0), (0, -1), (0, 1), (1, 0)]
def stepsOf (b : Bool) : List Pt := if b then sidesL else aroundL
theorem seq_around : seqOf wt_AROUND = .ok (aroundL.map wt2) := rfl
theorem seq_sides : seqOf wt_SIDES = .ok (sidesL.map wt2) := rfl
theorem sym_steps (b : Bool) : Sym (stepsOf b) := by
  cases b <;> (intro s hs; revert s; decide)
def takeF (b : Bool) (c : Pt) (s : List Pt × List Pt) (st : Pt) : List Pt × List Pt := if (b && decide (st.1 * st.2 ≠ 0)) = true then s else takeN c s st
def rowF (b : Bool) (c : Pt) (s : List Pt × List Pt) (r : Int) : List Pt × List Pt := takeF b c (takeF b c (takeF b c s (r, -1)) (r, 0)) (r, 1)
theorem skip0 {c : Pt} {s : List Pt × List Pt} (h : c ∉ s.1) : takeN c s (0, 0) = s := by
  unfold takeN
  rw [show plusC c (0, 0) = c from Prod.ext (Int.add_zero _) (Int.add_zero _), if_neg h]
theorem tf_false (c : Pt) (s : List Pt × List Pt) (st : Pt) : takeF false c s st = takeN c s st := rfl
theorem tf_diag {c : Pt} {s : List Pt × List Pt} {st : Pt} (h : decide (st.1 * st.2 ≠ 0) = true) : takeF true c s st = s := by
  unfold takeF
  rw [h]; rfl
theorem tf_side {c : Pt} {s : List Pt × List Pt} {st : Pt} (h : decide (st.1 * st.2 ≠ 0) = false) : takeF true c s st = takeN c s st := by
  unfold takeF
  rw [h]; rfl
theorem nine_is (b : Bool) {c : Pt} {s : List Pt × List Pt} (h : c ∉ s.1) : rowF b c (rowF b c (rowF b c s (-1)) 0) 1 = stepAll c (stepsOf b) s := by
  cases b with
  | false =>
    have h4 : c ∉ (stepAll c [(-1, -1), (-1, 0), (-1, 1), (0, -1)] s).1 := fun z => h (step_sub.1 _ z)
    simp only [rowF, tf_false, stepsOf, aroundL, Bool.false_eq_true, if_false, stepAll, List.foldl_cons, List.foldl_nil] at h4 ⊢
    rw [skip0 h4]
  | true =>
    have h2 : c ∉ (stepAll c [(-1, 0), (0, -1)] s).1 := fun z => h (step_sub.1 _ z)
    unfold rowF
    rw [tf_diag (st := (-1, -1)) (by decide), tf_side (st := (-1, 0)) (by decide), tf_diag (st := (-1, 1)) (by decide), tf_side (st := (0, -1)) (by decide), tf_side (st := (0, 0)) (by decide), tf_side (st := (0, 1)) (by decide), tf_diag (st := (1, -1)) (by decide), tf_side (st := (1, 0)) (by decide), tf_diag (st := (1, 1)) (by decide)]
    simp only [stepsOf, sidesL, if_true, stepAll, List.foldl_cons, List.foldl_nil] at h2 ⊢
    rw [skip0 h2]
theorem flat2 (i j : Int) : flat (.tuple [.int i, .int j]) = true := rfl
theorem takeF_sub {b : Bool} {c st : Pt} {s : List Pt × List Pt} : (∃ more, (takeF b c s st).2 = s.2 ++ more ∧ more.length ≤ 1) := by
  unfold takeF takeN
  split
  · exact ⟨[], by simp, by simp⟩
  · split
    · exact ⟨_, rfl, Nat.le_refl _⟩
    · exact ⟨[], by simp, by simp⟩
abbrev s10 (d0 : Option Slot) (b : Bool) (s : List Pt × List Pt) (a3 a4 : Option Slot) (k : Int) (x7 x8 x9 : Option Slot) : SS :=
  [d0, some (.sh (.bool b)), some (.ow (.dict (dctT s.1))), a3, a4, some (.ow (.list (s.2.map cellD))), some (.sh (.int k)), x7, x8, x9]
theorem mulS {r c : Int} (hr : r.natAbs ≤ 1) (hc : c.natAbs ≤ 1) : mulD (.int r) (.int c) = .ok (.int (r * c)) := E3.mulLL (decide_eq_true ⟨Nat.lt_of_le_of_lt hr (by decide), Nat.lt_of_le_of_lt hc (by decide)⟩)
theorem neI0 (i : Int) : neD (.int i) (.int 0) = .ok (.bool (!(i == 0))) := rfl
theorem fal_turn (d0 a3 a4 x9 : Option Slot) (b : Bool) (s : List Pt × List Pt) (k : Nat) (c : Pt) (r q : Int) (hk : s.2[k]? = some c) (hl : s.2.length < 100000) (hr : r.natAbs ≤ 1) (hq : q.natAbs ≤ 1) :
    B_law_fallen_1 (s10 d0 b s a3 a4 (k : Nat) (some (.sh (.int r))) (some (.sh (.int q))) x9) = .ok .nx (s10 d0 b (takeF b c s (r, q)) a3 a4 (k : Nat) (some (.sh (.int r))) (some (.sh (.int q))) (some (.sh (cellD (plusC c (r, q)))))) := by
  unfold B_law_fallen_1
  walk_at "ev"
  rw [ix_lst hk]
  walk_at "ev"
  rw [flat2, if_pos rfl]
  walk_at "ev"
  rw [show (PyData.tuple [.int (c.1 + r), .int (c.2 + q)]) = cellD (plusC c (r, q)) from rfl, in_dct]
  walk_at "ev"
  unfold takeF takeN
  by_cases e : plusC c (r, q) ∈ s.1
  · rw [decide_eq_true e, if_pos e]
    walk_at "ev"
    have go : C_law_fallen_1 (s10 d0 b s a3 a4 (k : Nat) (some (.sh (.int r))) (some (.sh (.int q))) (some (.sh (cellD (plusC c (r, q)))))) = .ok .nx (s10 d0 b (s.1.filter (fun x => decide (x ≠ plusC c (r, q))), s.2 ++ [plusC c (r, q)]) a3 a4 (k : Nat) (some (.sh (.int r))) (some (.sh (.int q))) (some (.sh (cellD (plusC c (r, q)))))) := by
      unfold C_law_fallen_1
      simp only [sSeq, sPopD, ownD, List.getElem?_cons_zero, List.getElem?_cons_succ]
      walk_at "ev"
      rw [show flatA [cellD (plusC c (r, q))] = true from rfl, if_pos rfl, pop_dct e]
      simp only [ownL, List.set_cons_zero, List.set_cons_succ, List.getElem?_cons_zero, List.getElem?_cons_succ]
      walk_at "ev"
      rw [app_cells (by omega)]
      rfl
    cases b with
    | false =>
      walk_at "ev"
      exact go
    | true =>
      walk_at "ev"
      rw [mulS hr hq]
      walk_at "ev"
      by_cases z : r * q = 0
      · rw [if_pos (by rw [z]; rfl), if_neg (by simp [z])]
        exact go
      · rw [if_neg (by simp [z]), if_pos (by simp [z])]
  · rw [decide_eq_false e, if_neg e, ite_self]
    rfl
theorem row_run (d0 a3 a4 : Option Slot) (b : Bool) (s : List Pt × List Pt) (k : Nat) (c : Pt) (r : Int) (x8 x9 : Option Slot) (hk : s.2[k]? = some c) (hl : s.2.length + 3 < 100000) (hr : r.natAbs ≤ 1) :
    ∃ y8 y9, B_law_fallen_2 (s10 d0 b s a3 a4 (k : Nat) (some (.sh (.int r))) x8 x9) = .ok .nx (s10 d0 b (rowF b c s r) a3 a4 (k : Nat) (some (.sh (.int r))) y8 y9) := by
  obtain ⟨m1, e1, l1⟩ := takeF_sub (b := b) (c := c) (st := (r, -1)) (s := s)
  obtain ⟨m2, f2, l2⟩ := takeF_sub (b := b) (c := c) (st := (r, 0)) (s := takeF b c s (r, -1))
  have k1 : (takeF b c s (r, -1)).2[k]? = some c := by rw [e1, List.getElem?_append_left (List.getElem?_eq_some_iff.mp hk).1]; exact hk
  have k2 : (takeF b c (takeF b c s (r, -1)) (r, 0)).2[k]? = some c := by rw [f2, List.getElem?_append_left (List.getElem?_eq_some_iff.mp k1).1]; exact k1
  have n1 : (takeF b c s (r, -1)).2.length ≤ s.2.length + 1 := by rw [e1, List.length_append]; omega
  have n2 : (takeF b c (takeF b c s (r, -1)) (r, 0)).2.length ≤ s.2.length + 2 := by rw [f2, List.length_append]; omega
  refine ⟨some (.sh (.int 1)), some (.sh (cellD (plusC c (r, 1)))), ?_⟩
  unfold B_law_fallen_2 I_law_fallen_2
  walk_at "ev"
  show forS (gN 8) B_law_fallen_1 [.int (-1), .int 0, .int 1] (s10 d0 b s a3 a4 (k : Nat) (some (.sh (.int r))) x8 x9) = _
  refine (forS_cons (σ1 := s10 d0 b s a3 a4 (k : Nat) (some (.sh (.int r))) (some (.sh (.int (-1)))) x9) rfl (fal_turn d0 a3 a4 x9 b s k c r (-1) hk (by omega) hr (by decide))).trans ?_
  refine (forS_cons (σ1 := s10 d0 b (takeF b c s (r, -1)) a3 a4 (k : Nat) (some (.sh (.int r))) (some (.sh (.int 0))) (some (.sh (cellD (plusC c (r, -1)))))) rfl (fal_turn d0 a3 a4 _ b _ k c r 0 k1 (by omega) hr (by decide))).trans ?_
  exact (forS_cons (σ1 := s10 d0 b (takeF b c (takeF b c s (r, -1)) (r, 0)) a3 a4 (k : Nat) (some (.sh (.int r))) (some (.sh (.int 1))) (some (.sh (cellD (plusC c (r, 0)))))) rfl (fal_turn d0 a3 a4 _ b _ k c r 1 k2 (by omega) hr (by decide))).trans rfl
theorem rowF_sub {b : Bool} {c : Pt} {r : Int} {s : List Pt × List Pt} : ∃ more, (rowF b c s r).2 = s.2 ++ more ∧ more.length ≤ 3 := by
  obtain ⟨m1, e1, l1⟩ := takeF_sub (b := b) (c := c) (st := (r, -1)) (s := s)
  obtain ⟨m2, f2, l2⟩ := takeF_sub (b := b) (c := c) (st := (r, 0)) (s := takeF b c s (r, -1))
  obtain ⟨m3, f3, l3⟩ := takeF_sub (b := b) (c := c) (st := (r, 1)) (s := takeF b c (takeF b c s (r, -1)) (r, 0))
  refine ⟨m1 ++ (m2 ++ m3), ?_, ?_⟩
  · unfold rowF
    rw [f3, f2, e1, List.append_assoc, List.append_assoc]
  · rw [List.length_append, List.length_append]; omega
theorem nine_run (d0 a3 a4 : Option Slot) (b : Bool) (s : List Pt × List Pt) (k : Nat) (c : Pt) (x7 x8 x9 : Option Slot) (hk : s.2[k]? = some c) (hl : s.2.length + 9 < 100000) :
    ∃ y7 y8 y9, forS (gN 7) B_law_fallen_2 [.int (-1), .int 0, .int 1] (s10 d0 b s a3 a4 (k : Nat) x7 x8 x9) = .ok .nx (s10 d0 b (rowF b c (rowF b c (rowF b c s (-1)) 0) 1) a3 a4 (k : Nat) y7 y8 y9) := by
  obtain ⟨m1, e1, l1⟩ := rowF_sub (b := b) (c := c) (r := -1) (s := s)
  obtain ⟨m2, f2, l2⟩ := rowF_sub (b := b) (c := c) (r := 0) (s := rowF b c s (-1))
  have k1 : (rowF b c s (-1)).2[k]? = some c := by rw [e1, List.getElem?_append_left (List.getElem?_eq_some_iff.mp hk).1]; exact hk
  have k2 : (rowF b c (rowF b c s (-1)) 0).2[k]? = some c := by rw [f2, List.getElem?_append_left (List.getElem?_eq_some_iff.mp k1).1]; exact k1
  have n1 : (rowF b c s (-1)).2.length ≤ s.2.length + 3 := by rw [e1, List.length_append]; omega
  have n2 : (rowF b c (rowF b c s (-1)) 0).2.length ≤ s.2.length + 6 := by rw [f2, List.length_append]; omega
  obtain ⟨y8, y9, g1⟩ := row_run d0 a3 a4 b s k c (-1) x8 x9 hk (by omega) (by decide)
  obtain ⟨z8, z9, g2⟩ := row_run d0 a3 a4 b (rowF b c s (-1)) k c 0 y8 y9 k1 (by omega) (by decide)
  obtain ⟨w8, w9, g3⟩ := row_run d0 a3 a4 b (rowF b c (rowF b c s (-1)) 0) k c 1 z8 z9 k2 (by omega) (by decide)
  refine ⟨some (.sh (.int 1)), w8, w9, (forS_cons (σ1 := s10 d0 b s a3 a4 (k : Nat) (some (.sh (.int (-1)))) x8 x9) rfl g1).trans ?_⟩
  refine (forS_cons (σ1 := s10 d0 b (rowF b c s (-1)) a3 a4 (k : Nat) (some (.sh (.int 0))) y8 y9) rfl g2).trans ?_
  exact (forS_cons (σ1 := s10 d0 b (rowF b c (rowF b c s (-1)) 0) a3 a4 (k : Nat) (some (.sh (.int 1))) z8 z9) rfl g3).trans rfl
theorem wf_test (d0 a3 a4 : Option Slot) (b : Bool) (s : List Pt × List Pt) (k : Nat) (x7 x8 x9 : Option Slot) : (tB (e2 ltD (eVar 6) (eCall lenD (aCons (eVar 5) aNil)))) (view (s10 d0 b s a3 a4 (k : Nat) x7 x8 x9)) = .ok (decide (k < s.2.length)) := by
  walk_at "ev"
  rw [List.length_map]
  exact congrArg Res.ok (decide_eq_decide.mpr (by omega))
theorem fal_flo (b : Bool) (d0 a3 a4 : Option Slot) {L : List Pt} (hL : L.length < 90000) : ∀ (n : Nat) (s : List Pt × List Pt) (k : Nat) (x7 x8 x9 : Option Slot), FI L s → k ≤ s.2.length → L.length + 1 ≤ n + k →
    ∃ k2 y7 y8 y9, whS (tB (e2 ltD (eVar 6) (eCall lenD (aCons (eVar 5) aNil)))) B_law_fallen_3 n (s10 d0 b s a3 a4 (k : Nat) x7 x8 x9) = .ok .nx (s10 d0 b (flo (stepsOf b) n s k) a3 a4 k2 y7 y8 y9)
  | 0, s, k, _, _, _, h, hk, hn => by
    have := h.len
    omega
  | n + 1, s, k, x7, x8, x9, h, hk, hn => by
    have hls := h.len
    unfold flo
    cases q : s.2[k]? with
    | none =>
      have hk2 : s.2.length ≤ k := List.getElem?_eq_none_iff.mp q
      exact ⟨_, x7, x8, x9, whS_stop (by rw [wf_test, decide_eq_false (by omega)])⟩
    | some c =>
      have hk2 : k < s.2.length := (List.getElem?_eq_some_iff.mp q).1
      have hc : c ∉ s.1 := fun z => h.dis c z (List.mem_of_getElem? q)
      obtain ⟨y7, y8, y9, e⟩ := nine_run d0 a3 a4 b s k c x7 x8 x9 q (by omega)
      rw [nine_is b hc] at e
      obtain ⟨more, em⟩ := (step_sub (c := c) (steps := stepsOf b) (s := s)).2
      have hb : B_law_fallen_3 (s10 d0 b s a3 a4 (k : Nat) x7 x8 x9) = .ok .nx (s10 d0 b (stepAll c (stepsOf b) s) a3 a4 ((k + 1 : Nat) : Int) y7 y8 y9) := by
        unfold B_law_fallen_3 I_law_fallen_3
        walk_at "ev"
        rw [show (forS (gN 7) B_law_fallen_2 [.int (-1), .int 0, .int 1] (s10 d0 b s a3 a4 (k : Nat) x7 x8 x9)) = _ from e]
        walk_at "ev"
        rfl
      obtain ⟨k2, z7, z8, z9, f2⟩ := fal_flo b d0 a3 a4 hL n (stepAll c (stepsOf b) s) (k + 1) y7 y8 y9 (h.step c) (by rw [em, List.length_append]; omega) (by omega)
      exact ⟨k2, z7, z8, z9, (whS_go (by rw [wf_test, decide_eq_true hk2]) hb).trans f2⟩
abbrev s10r (d0 : Option Slot) (b : Bool) (L : List Pt) (a3 : Option Slot) (acc : List (List Pt)) (x5 x6 x7 x8 x9 : Option Slot) : SS :=
  [d0, some (.sh (.bool b)), some (.ow (.dict (dctT L))), a3, some (.ow (.list (acc.map tupC))), x5, x6, x7, x8, x9]
theorem fal_part (d0 : Option Slot) (b : Bool) {L : List Pt} (acc : List (List Pt)) (c : Pt) (x5 x6 x7 x8 x9 : Option Slot) (nd : L.Nodup) (hl : L.length < 90000) (ha : acc.length < 100000) (hc : c ∈ L) :
    ∃ y5 y6 y7 y8 y9, C_law_fallen_2 (s10r d0 b L (some (.sh (cellD c))) acc x5 x6 x7 x8 x9) = .ok .nx (s10r d0 b (flood (stepsOf b) L c).1 (some (.sh (cellD c))) (acc ++ [srt (flood (stepsOf b) L c).2]) y5 y6 y7 y8 y9) := by
  obtain ⟨f1, f2⟩ := flood_ok (steps := stepsOf b) nd hc
  have hfl := f1.len
  obtain ⟨k2, y7, y8, y9, e⟩ := fal_flo b d0 (some (.sh (cellD c))) (some (.ow (.list (acc.map tupC)))) hl (L.length + 1) (L.filter (fun x => decide (x ≠ c)), [c]) 0 x7 x8 x9 (FI.start nd hc) (Nat.zero_le _) (by omega)
  have f3 : sWhile (tB (e2 ltD (eVar 6) (eCall lenD (aCons (eVar 5) aNil)))) B_law_fallen_3 [d0, some (.sh (.bool b)), some (.ow (.dict (dctT (L.filter (fun x => decide (x ≠ c)))))), some (.sh (cellD c)), some (.ow (.list (acc.map tupC))), some (.ow (.list [cellD c])), some (.sh (.int 0)), x7, x8, x9] = _ := sWhile_of e (fun z => by cases z)
  refine ⟨some (.sh (.list ((flood (stepsOf b) L c).2.map cellD))), some (.sh (.int k2)), y7, y8, y9, ?_⟩
  unfold C_law_fallen_2
  walk_at "ev"
  simp only [sPopD, ownD, List.getElem?_cons_zero, List.getElem?_cons_succ]
  walk_at "ev"
  rw [show flatA [cellD c] = true from rfl, if_pos rfl, pop_dct hc]
  walk_at "ev"
  rw [f3]
  walk_at "ev"
  simp only [ownL, List.getElem?_cons_zero, List.getElem?_cons_succ]
  walk_at "ev"
  rw [sort_cells (ps := (flo (stepsOf b) (L.length + 1) (L.filter (fun x => decide (x ≠ c)), [c]) 0).2) f1.n2 (by show (flood (stepsOf b) L c).2.length ≤ _; omega)]
  walk_at "ev"
  rw [app_any (by rw [List.length_map]; omega)]
  simp only [s10r, List.map_append]
  rfl
theorem fal_turns (d0 : Option Slot) (b : Bool) : ∀ (cs L : List Pt) (acc : List (List Pt)) (x3 x5 x6 x7 x8 x9 : Option Slot), L.Nodup → L.length < 90000 → acc.length + cs.length < 100000 →
    ∃ M y3 y5 y6 y7 y8 y9, forS (gN 3) (sIf (tB (e2 inG (eVar 3) (eVar 2))) C_law_fallen_2 sNil) (cs.map cellD) (s10r d0 b L x3 acc x5 x6 x7 x8 x9) = .ok .nx (s10r d0 b M y3 (regs (stepsOf b) cs L acc) y5 y6 y7 y8 y9)
  | [], L, acc, x3, x5, x6, x7, x8, x9, _, _, _ => ⟨L, x3, x5, x6, x7, x8, x9, rfl⟩
  | c :: cs, L, acc, x3, x5, x6, x7, x8, x9, nd, hl, ha => by
    rw [List.length_cons] at ha
    by_cases e : c ∈ L
    · have f1 := (flood_ok (steps := stepsOf b) nd e).1
      have hfl := f1.len
      obtain ⟨y5, y6, y7, y8, y9, g⟩ := fal_part d0 b acc c x5 x6 x7 x8 x9 nd hl (by omega) e
      obtain ⟨M, z3, z5, z6, z7, z8, z9, g2⟩ := fal_turns d0 b cs (flood (stepsOf b) L c).1 (acc ++ [srt (flood (stepsOf b) L c).2]) (some (.sh (cellD c))) y5 y6 y7 y8 y9 f1.n1 (by omega) (by rw [List.length_append, List.length_singleton]; omega)
      refine ⟨M, z3, z5, z6, z7, z8, z9, ?_⟩
      rw [regs, if_pos e]
      refine (forS_cons (σ1 := s10r d0 b L (some (.sh (cellD c))) acc x5 x6 x7 x8 x9) rfl ?_).trans g2
      walk_at "ev"
      rw [in_dct, decide_eq_true e]
      walk_at "ev"
      exact g
    · obtain ⟨M, z3, z5, z6, z7, z8, z9, g2⟩ := fal_turns d0 b cs L acc (some (.sh (cellD c))) x5 x6 x7 x8 x9 nd hl (by omega)
      refine ⟨M, z3, z5, z6, z7, z8, z9, ?_⟩
      rw [regs, if_neg e]
      refine (forS_cons (σ1 := s10r d0 b L (some (.sh (cellD c))) acc x5 x6 x7 x8 x9) rfl ?_).trans g2
      walk_at "ev"
      rw [in_dct, decide_eq_false e]
      walk_at "ev"
theorem fal_noted (d0 a1 : Option Slot) (x4 x5 x6 x7 x8 x9 : Option Slot) : ∀ (ps L : List Pt) (x3 : Option Slot), (L ++ ps).Nodup → (L ++ ps).length < 900000 → ∃ y3, forS (gN 3) (sPut 2 (eVar 3) (eC (.bool true))) (ps.map cellD) [d0, a1, some (.ow (.dict (dctT L))), x3, x4, x5, x6, x7, x8, x9] = .ok .nx [d0, a1, some (.ow (.dict (dctT (L ++ ps)))), y3, x4, x5, x6, x7, x8, x9]
  | [], L, x3, _, _ => ⟨x3, by rw [List.append_nil]; rfl⟩
  | p :: r, L, x3, nd, hl => by
    have np : p ∉ L := fun z => (List.nodup_append.mp nd).2.2 p z p List.mem_cons_self rfl
    have e1 : addC L p = L ++ [p] := if_neg np
    obtain ⟨y3, e⟩ := fal_noted d0 a1 x4 x5 x6 x7 x8 x9 r (L ++ [p]) (some (.sh (cellD p))) (by rw [List.append_assoc]; exact nd) (by rw [List.append_assoc]; exact hl)
    rw [List.append_assoc] at e
    refine ⟨y3, (forS_cons (σ1 := [d0, a1, some (.ow (.dict (dctT L))), some (.sh (cellD p)), x4, x5, x6, x7, x8, x9]) rfl ?_).trans e⟩
    simp only [sPut, ownD, List.getElem?_cons_succ, List.getElem?_cons_zero]
    walk_at "ev"
    rw [putS_dct (by rw [sizeLine_eq]; rw [List.length_append] at hl; omega), e1]
    rfl
theorem fallen_ok (S : List D → Res D) (b : Bool) {ps : List Pt} {d : D} (hd : seqOf d = .ok (ps.map cellD)) (hs : S [d] = .ok (.list (ps.map cellD))) (nd : ps.Nodup) (hl : ps.length < 90000) :
    D_law_fallen S [d, .bool b] = .ok (.list ((regs (stepsOf b) ps ps []).map tupC)) := by
  obtain ⟨y3, e⟩ := fal_noted (some (.sh d)) (some (.sh (.bool b))) none none none none none none ps [] none (by simpa using nd) (by simpa using Nat.lt_trans hl (by decide))
  obtain ⟨M, z3, z5, z6, z7, z8, z9, g⟩ := fal_turns (some (.sh d)) b ps ps [] y3 none none none none none nd hl (by simp; omega)
  unfold D_law_fallen I_law_fallen_1
  walk_at "ev"
  rw [hd]
  walk_at "ev"
  rw [show (PyData.dict []) = .dict (dctT []) from rfl, e]
  unfold T_law_fallen_1 I_law_fallen_4
  walk_at "ev"
  rw [hs]
  walk_at "ev"
  rw [show (forS (gN 3) (sIf (tB (e2 inG (eVar 3) (eVar 2))) C_law_fallen_2 sNil) (ps.map cellD) [some (.sh d), some (.sh (.bool b)), some (.ow (.dict (dctT ps))), y3, some (.ow (.list [])), none, none, none, none, none]) = _ from g]
  walk_at "ev"
end
end H70

namespace H20
open PySem PySem.Spec PyProof.Rows L2 E3
local macro_rules | `(tactic| walk_at "ev") => `(tactic| try simp (disch := first | decide | decide +kernel | omega) only [fnD, startF, endF, sSeq, sAsg, sSet, sSetV, sAsgV, sIf, sRet, sNew, sNewV, sMut, sMutV, sFor, sForR, sFreeze, sNil, sExpr, optK, thenR_ok, thenR_exc, thenR_stuck,
  view, mask, E3.eVar_zero, E3.eVar_succ, eC, e1, e2, eCall, eTup, eLst, eSl, oNone, oSome, eAnd, eOr, eIf, E3.tAnd, E3.tOr, E3.tNot, E3.tB, asB, notD, aNil, aCons, Res.bind_ok, Res.bind_exc, Res.bind_stuck,
  gT, gsCons, gsNil, gN, tupD, lstD, Slot.dat, Slot.shd, List.length_cons, List.length_nil, List.map_cons, List.map_nil, List.replicate, List.append_nil, List.cons_append, List.nil_append, Option.map_some, Option.map_none, Option.bind_some, Option.bind_none,
  List.getElem?_cons_zero, List.getElem?_cons_succ, List.set_cons_zero, List.set_cons_succ, Nat.reduceAdd, Nat.reduceSub, Nat.reduceEqDiff, if_true, if_false, ite_true, ite_false, reduceIte, decide_true, decide_false, reduceCtorEq, Bool.not_true, Bool.not_false, Bool.false_eq_true, Bool.true_eq_false, Bool.or_true, Bool.true_or, Bool.false_or, Bool.or_false, Bool.and_true, Bool.and_false, Bool.true_and, Bool.false_and, addI, subI, ltI, leI, gtI, geI, eqI, neI, E3.negI, ix_cell0, ix_cell1, E3.le0, E3.le1, E3.le2, E3.le3, E3.le4, E3.le5, E3.le6, beq_self_eq_true, E3.divmodI, E3.modI, E3.fdivI, E3.powL, E3.mulLL, E3.isi_bool_none, E3.isi_bool_bool, E3.isi_bool_int, E3.isi_bool_str, E3.isi_bool_list, E3.isi_bool_tuple, E3.isi_int_none, E3.isi_int_bool, E3.isi_int_int, E3.isi_int_str, E3.isi_int_list, E3.isi_int_tuple, E3.isi_str_none, E3.isi_str_bool, E3.isi_str_int, E3.isi_str_str, E3.isi_str_list, E3.isi_str_tuple, E3.isi_list_none, E3.isi_list_bool, E3.isi_list_int, E3.isi_list_str, E3.isi_list_list, E3.isi_list_tuple, E3.isi_tuple_none, E3.isi_tuple_bool, E3.isi_tuple_int, E3.isi_tuple_str, E3.isi_tuple_list, E3.isi_tuple_tuple, E3.isN_none, E3.ntN_none, E3.isN_bool, E3.ntN_bool, E3.isN_int, E3.ntN_int, E3.isN_str, E3.ntN_str, E3.isN_list, E3.ntN_list, E3.isN_tuple, E3.ntN_tuple, E3.len_list, E3.len_tup, E3.seq_list, E3.seq_tup, E3.tup_list, E3.tup_tup, E3.lst_list, E3.lst_tup])
def C_law_base_1 : SF := (sRet (eTup (aCons (eTup (aCons (eC (.int 0)) (aCons (eC (.int 0)) aNil))) (aCons (eVar 0) aNil))))
def D_law_base : List D → Res D := fnD 5 1 (sSeq (sAsg (gT 2 (gsCons (gN 0) (gsCons (gN 1) gsNil))) (eCall divmodD (aCons (eVar 0) (aCons (eC (.int 5)) aNil))))
  (sSeq (sIf (tB (e2 gtD (eVar 1) (eC (.int 1)))) C_law_base_1 sNil)
  (sSeq (sAsg (gT 2 (gsCons (gN 0) (gsCons (gN 2) gsNil))) (eCall divmodD (aCons (eVar 0) (aCons (e2 ixD (eLst (aCons (e2 addD (e2 mulD (eC (.int 2)) (e2 powD (eC (.int 10)) (eC (.int 12)))) (eC (.int 1))) (aCons (eC (.int 2)) aNil))) (eVar 1)) aNil))))
  (sSeq (sAsg (gT 2 (gsCons (gN 0) (gsCons (gN 3) gsNil))) (eCall divmodD (aCons (eVar 0) (aCons (e2 ixD (eLst (aCons (e2 addD (e2 mulD (eC (.int 2)) (e2 powD (eC (.int 10)) (eC (.int 12)))) (eC (.int 1))) (aCons (eC (.int 2)) aNil))) (eVar 1)) aNil))))
  (sSeq (sSet 4 (e2 ixD (eLst (aCons (eC (.int 1)) (aCons (e2 mulD (eC (.int 2)) (e2 powD (eC (.int 10)) (eC (.int 12)))) aNil))) (eVar 1)))
  (sRet (eTup (aCons (eTup (aCons (e2 subD (e2 mulD (eVar 2) (eVar 4)) (e2 powD (eC (.int 10)) (eC (.int 12)))) (aCons (e2 subD (e2 mulD (eVar 3) (eVar 4)) (e2 powD (eC (.int 10)) (eC (.int 12)))) aNil))) (aCons (eVar 0) aNil)))))))))
def D_law_kept : List D → Res D := fnD 2 2 (sRet (eTup (aCons (eCall max2D (aCons (e1 negD (e2 powD (eC (.int 10)) (eC (.int 12)))) (aCons (eCall min2D (aCons (e2 powD (eC (.int 10)) (eC (.int 12))) (aCons (eVar 0) aNil))) aNil))) (aCons (eCall max2D (aCons (e1 negD (e2 powD (eC (.int 10)) (eC (.int 12)))) (aCons (eCall min2D (aCons (e2 powD (eC (.int 10)) (eC (.int 12))) (aCons (eVar 1) aNil))) aNil))) aNil))))
def I_law_heap_1 : DS → Res (List D) := (fun σ => ((eVar 1) σ).bind seqOf)
def B_law_heap_1 : SF := (sPut 5 (eCall D_law_kept (aCons (e2 addD (e2 addD (e2 ixD (eVar 4) (eC (.int 0))) (e2 fdivD (eVar 8) (eC (.int 7)))) (e2 ixD (eVar 9) (eC (.int 0)))) (aCons (e2 addD (e2 addD (e2 ixD (eVar 4) (eC (.int 1))) (e2 modD (eVar 8) (eC (.int 7)))) (e2 ixD (eVar 9) (eC (.int 1)))) aNil))) (eC (.bool true)))
def I_law_heap_2 : DS → Res (List D) := (fun σ => ((aCons (eVar 6) aNil) σ).bind rng1)
def B_law_heap_2 : SF := (sSeq (sAsg (gT 2 (gsCons (gN 0) (gsCons (gN 8) gsNil))) (eCall divmodD (aCons (eVar 0) (aCons (eC (.int 49)) aNil))))
  (sFor I_law_heap_1 (gN 9)
  B_law_heap_1))
def I_law_heap_3 : DS → Res (List D) := (fun σ => ((aCons (eVar 10) aNil) σ).bind rng1)
def B_law_heap_3 : SF := (sSeq (sAsg (gT 2 (gsCons (gN 0) (gsCons (gN 8) gsNil))) (eCall divmodD (aCons (eVar 0) (aCons (eC (.int 81)) aNil))))
  (sPut 5 (eCall D_law_kept (aCons (e2 subD (e2 addD (e2 ixD (eVar 4) (eC (.int 0))) (e2 fdivD (eVar 8) (eC (.int 9)))) (eC (.int 1))) (aCons (e2 subD (e2 addD (e2 ixD (eVar 4) (eC (.int 1))) (e2 modD (eVar 8) (eC (.int 9)))) (eC (.int 1))) aNil))) (eC (.bool true))))
def I_law_heap_4 : DS → Res (List D) := (fun σ => ((aCons (eCall min2D (aCons (eVar 11) (aCons (eCall lenAny (aCons (eVar 5) aNil)) aNil))) aNil) σ).bind rng1)
def B_law_heap_4 : SF := (sSeq (sAsgV (gT 2 (gsCons (gN 0) (gsCons (gN 8) gsNil))) (eCall divmodD (aCons (eVar 0) (aCons (eCall lenAny (aCons (eVar 5) aNil)) aNil))))
  (sPopD 5 (aCons (e2 ixD (eCall sortAnyD (aCons (eVar 5) aNil)) (eVar 8)) aNil)))
def T_law_heap_1 : SF := (sFreeze 5 (sRet (eTup (aCons (eTup (aCons (eCall tupleD (aCons (eCall sortAnyD (aCons (eVar 5) aNil)) aNil)) (aCons (e2 eqD (eVar 3) (eC (.int 0))) aNil))) (aCons (eVar 0) aNil)))))
def T_law_heap_2 : SF := (sSeq (sAsg (gT 2 (gsCons (gN 0) (gsCons (gN 11) gsNil))) (eCall divmodD (aCons (eVar 0) (aCons (eC (.int 4)) aNil))))
  (sSeq (sForR I_law_heap_4 (gN 7)
  B_law_heap_4)
  T_law_heap_1))
def T_law_heap_3 : SF := (sSeq (sAsg (gT 2 (gsCons (gN 0) (gsCons (gN 10) gsNil))) (eCall divmodD (aCons (eVar 0) (aCons (eC (.int 7)) aNil))))
  (sSeq (sFor I_law_heap_3 (gN 7)
  B_law_heap_3)
  T_law_heap_2))
def D_law_heap : List D → Res D := fnD 12 3 (sSeq (sAsg (gT 2 (gsCons (gN 0) (gsCons (gN 3) gsNil))) (eCall divmodD (aCons (eVar 0) (aCons (eC (.int 4)) aNil))))
  (sSeq (sAsg (gT 2 (gsCons (gN 4) (gsCons (gN 0) gsNil))) (eCall D_law_base (aCons (eVar 0) aNil)))
  (sSeq (sNew 5 (eC (.dict [])))
  (sSeq (sAsg (gT 2 (gsCons (gN 0) (gsCons (gN 6) gsNil))) (eCall divmodD (aCons (eVar 0) (aCons (e2 addD (eVar 2) (eC (.int 1))) aNil))))
  (sSeq (sFor I_law_heap_2 (gN 7)
  B_law_heap_2)
  T_law_heap_3)))))
def C_law_spot_1 : SF := (sSeq (sAsg (gT 2 (gsCons (gN 0) (gsCons (gN 6) gsNil))) (eCall divmodD (aCons (eVar 0) (aCons (eCall lenD (aCons (e2 ixD (eVar 1) (eC (.int 0))) aNil)) aNil))))
  (sSet 5 (e2 ixD (e2 ixD (eVar 1) (eC (.int 0))) (eVar 6))))
def D_law_spot : List D → Res D := fnD 8 3 (sSeq (sAsg (gT 2 (gsCons (gN 0) (gsCons (gN 3) gsNil))) (eCall divmodD (aCons (eVar 0) (aCons (eC (.int 4)) aNil))))
  (sSeq (sAsg (gT 2 (gsCons (gN 0) (gsCons (gN 4) gsNil))) (eCall divmodD (aCons (eVar 0) (aCons (eC (.int 25)) aNil))))
  (sSeq (sSet 5 (eTup (aCons (eC (.int 0)) (aCons (eC (.int 0)) aNil))))
  (sSeq (sIf (tB (e2 neD (e2 ixD (eVar 1) (eC (.int 0))) (eTup aNil))) C_law_spot_1 sNil)
  (sSeq (sSet 7 (e2 ixD (eLst (aCons (eTup (aCons (eC (.int 0)) (aCons (eC (.int 0)) aNil))) (aCons (eTup (aCons (e2 subD (e2 fdivD (eVar 4) (eC (.int 5))) (eC (.int 2))) (aCons (e2 subD (e2 modD (eVar 4) (eC (.int 5))) (eC (.int 2))) aNil))) (aCons (e2 ixD (eVar 2) (e2 modD (eVar 4) (eCall lenD (aCons (eVar 2) aNil)))) (aCons (eTup (aCons (e2 mulD (eVar 4) (e2 powD (eC (.int 10)) (eC (.int 9)))) (aCons (e2 subD (eC (.int 7)) (e2 mulD (eVar 4) (e2 powD (eC (.int 10)) (eC (.int 8))))) aNil))) aNil))))) (eVar 3)))
  (sRet (eCall D_law_kept (aCons (e2 addD (e2 ixD (eVar 5) (eC (.int 0))) (e2 ixD (eVar 7) (eC (.int 0)))) (aCons (e2 addD (e2 ixD (eVar 5) (eC (.int 1))) (e2 ixD (eVar 7) (eC (.int 1)))) aNil)))))))))
def inF (p : Int × Int) : Prop := (-1000000000000 ≤ p.1 ∧ p.1 ≤ 1000000000000) ∧ (-1000000000000 ≤ p.2 ∧ p.2 ≤ 1000000000000)
theorem base_ok (n : Int) (hn : 0 ≤ n) : ∃ (b : Int × Int) (n' : Int), 0 ≤ n' ∧ D_law_base [.int n] = .ok (.tuple [cellD b, .int n']) := by
  have h5 : 0 ≤ n / 5 := Int.ediv_nonneg hn (by decide)
  by_cases hw : n % 5 > 1
  · refine ⟨(0, 0), n / 5, h5, ?_⟩
    unfold D_law_base C_law_base_1
    walk_at "ev"
    rw [decide_eq_true hw]
    walk_at "ev"
  · have hw2 : n % 5 = 0 ∨ n % 5 = 1 := by have := Int.emod_nonneg n (show (5 : Int) ≠ 0 by decide); omega
    have p12 : (10 : Int) ^ Int.toNat 12 = 1000000000000 := rfl
    have go : ∀ s by' : Int, 0 < s → s ≤ 2 * 1000000000000 + 1 → 0 ≤ by' → by' ≤ 2 * 1000000000000 → ixD (.list [.int (2 * 10 ^ Int.toNat 12 + 1), .int 2]) (.int (n % 5)) = .ok (.int s) → ixD (.list [.int 1, .int (2 * 10 ^ Int.toNat 12)]) (.int (n % 5)) = .ok (.int by') →
        ∃ (b : Int × Int) (n' : Int), 0 ≤ n' ∧ D_law_base [.int n] = .ok (.tuple [cellD b, .int n']) := by
      intro s by' s0 s1 b0 b1 e1 e2
      have hl : s.natAbs.log2 < 9000 := log2_lt 60 (by omega) (by decide) s0
      have q1 : 0 ≤ n / 5 / s := Int.ediv_nonneg h5 (by omega)
      have q2 : 0 ≤ n / 5 / s / s := Int.ediv_nonneg q1 (by omega)
      have r1 := Int.emod_nonneg (n / 5) (show s ≠ 0 by omega)
      have r2 := Int.emod_lt_of_pos (n / 5) s0
      have r3 := Int.emod_nonneg (n / 5 / s) (show s ≠ 0 by omega)
      have r4 := Int.emod_lt_of_pos (n / 5 / s) s0
      refine ⟨(n / 5 % s * by' - 10 ^ Int.toNat 12, n / 5 / s % s * by' - 10 ^ Int.toNat 12), n / 5 / s / s, q2, ?_⟩
      unfold D_law_base C_law_base_1
      walk_at "ev"
      rw [decide_eq_false hw]
      walk_at "ev"
      rw [e1]
      walk_at "ev"
      rw [e1]
      walk_at "ev"
      rw [e2]
      walk_at "ev"
      rw [mulB 60 60 (by omega) (by omega) (by decide)]
      walk_at "ev"
      rw [mulB 60 60 (by omega) (by omega) (by decide)]
      walk_at "ev"
    rcases hw2 with h | h
    · exact go (2 * 1000000000000 + 1) 1 (by decide) (by decide) (by decide) (by decide) (by rw [h]; rfl) (by rw [h]; rfl)
    · exact go 2 (2 * 1000000000000) (by decide) (by decide) (by decide) (by decide) (by rw [h]; rfl) (by rw [h]; rfl)
def kp (r : Int) : Int := if (if r < 1000000000000 then r else 1000000000000) > -1000000000000 then (if r < 1000000000000 then r else 1000000000000) else -1000000000000
theorem kp_in (r : Int) : -1000000000000 ≤ kp r ∧ kp r ≤ 1000000000000 := by
  unfold kp
  split <;> split <;> omega
theorem kept_ok (r c : Int) : D_law_kept [.int r, .int c] = .ok (cellD (kp r, kp c)) := by
  have m1 : ∀ i j : Int, min2D [.int i, .int j] = .ok (.int (if j < i then j else i)) := fun _ _ => rfl
  have m2 : ∀ i j : Int, max2D [.int i, .int j] = .ok (.int (if j > i then j else i)) := fun _ _ => rfl
  unfold D_law_kept
  walk_at "ev"
  rw [m1]
  walk_at "ev"
  rw [m2]
  walk_at "ev"
  rw [m1]
  walk_at "ev"
  rw [m2]
  walk_at "ev"
  rfl
theorem inF_kp (r c : Int) : inF (kp r, kp c) := ⟨kp_in r, kp_in c⟩
abbrev hS (n : Int) (P : List (Int × Int)) (m w : Int) (b : Int × Int) (qs : List (Int × Int)) (x6 x7 x8 x9 x10 x11 : Option Slot) : SS :=
  [some (.sh (.int n)), some (.sh (tupC P)), some (.sh (.int m)), some (.sh (.int w)), some (.sh (cellD b)), some (.ow (.dict (dctT qs))), x6, x7, x8, x9, x10, x11]
variable {P : List (Int × Int)} {m w : Int} {b : Int × Int}
theorem h1_turn (n a : Int) (p : Int × Int) (qs : List (Int × Int)) (x6 x7 x10 x11 : Option Slot) (h : qs.length < 10000) :
    SN (B_law_heap_1 (hS n P m w b qs x6 x7 (some (.sh (.int a))) (some (.sh (cellD p))) x10 x11)) fun σ => ∃ q, inF q ∧ σ = hS n P m w b (addC qs q) x6 x7 (some (.sh (.int a))) (some (.sh (cellD p))) x10 x11 := by
  have k := kept_ok (b.1 + a / 7 + p.1) (b.2 + a % 7 + p.2)
  unfold B_law_heap_1
  walk_at "ev"
  simp only [sPut, ownD, List.getElem?_cons_zero, List.getElem?_cons_succ]
  walk_at "ev"
  rw [k]
  walk_at "ev"
  exact SN_put (Nat.lt_trans h (by decide)) ⟨_, inF_kp _ _, rfl⟩
theorem h1_loop (n a : Int) (P' : List (Int × Int)) (qs : List (Int × Int)) (x6 x7 x9 x10 x11 : Option Slot) (h : qs.length + P'.length < 10000) (hn : qs.Nodup) (hi : ∀ p ∈ qs, inF p) :
    ∃ σ', forS (gN 9) B_law_heap_1 (P'.map cellD) (hS n P m w b qs x6 x7 (some (.sh (.int a))) x9 x10 x11) = .ok .nx σ' ∧ ∃ rs y9, rs.Nodup ∧ (∀ p ∈ rs, inF p) ∧ rs.length ≤ qs.length + P'.length ∧ σ' = hS n P m w b rs x6 x7 (some (.sh (.int a))) y9 x10 x11 := by
  refine forS_pre (p := gN 9) (body := B_law_heap_1) (g := cellD) (Inv := fun pre σ => ∃ rs y9, rs.Nodup ∧ (∀ p ∈ rs, inF p) ∧ rs.length ≤ qs.length + pre.length ∧ σ = hS n P m w b rs x6 x7 (some (.sh (.int a))) y9 x10 x11) P' _ ⟨qs, x9, hn, hi, by simp, rfl⟩ ?_
  rintro pre p post σ he ⟨rs, y9, h1, h2, h3, rfl⟩
  have hl : P'.length = pre.length + (post.length + 1) := by rw [he, List.length_append, List.length_cons]
  obtain ⟨_, e, q, hq, rfl⟩ := h1_turn (P := P) (m := m) (w := w) (b := b) n a p rs x6 x7 x10 x11 (by omega)
  refine ⟨_, _, rfl, .inl e, addC rs q, _, nd_addC h1, fun p hp => ?_, ?_, rfl⟩
  · rcases mem_addC.mp hp with z | z
    · exact h2 p z
    · rw [z]; exact hq
  · rw [List.length_append, List.length_singleton]
    have := len_addC rs q
    omega
theorem h2_turn (n : Int) (k : Int) (qs : List (Int × Int)) (x6 x8 x9 x10 x11 : Option Slot) (hn0 : 0 ≤ n) (h : qs.length + P.length < 10000) (hn : qs.Nodup) (hi : ∀ p ∈ qs, inF p) :
    SN (B_law_heap_2 (hS n P m w b qs x6 (some (.sh (.int k))) x8 x9 x10 x11)) fun σ => ∃ n' rs y8 y9, 0 ≤ n' ∧ rs.Nodup ∧ (∀ p ∈ rs, inF p) ∧ rs.length ≤ qs.length + P.length ∧ σ = hS n' P m w b rs x6 (some (.sh (.int k))) y8 y9 x10 x11 := by
  obtain ⟨σ', e, rs, y9, r1, r2, r3, rfl⟩ := h1_loop (P := P) (m := m) (w := w) (b := b) (n / 49) (n % 49) P qs x6 (some (.sh (.int k))) x9 x10 x11 h hn hi
  have it : I_law_heap_1 [some (.int (n / 49)), some (tupC P), some (.int m), some (.int w), some (cellD b), none, x6.bind Slot.shd, some (.int k), some (.int (n % 49)), x9.bind Slot.shd, x10.bind Slot.shd, x11.bind Slot.shd] = .ok (P.map cellD) := rfl
  unfold B_law_heap_2
  walk_at "ev"
  rw [it]
  walk_at "ev"
  rw [e]
  exact SN.ok ⟨_, rs, _, y9, Int.ediv_nonneg hn0 (by decide), r1, r2, r3, rfl⟩
theorem h3_turn (n k : Int) (qs : List (Int × Int)) (x6 x8 x9 x10 x11 : Option Slot) (hn0 : 0 ≤ n) (h : qs.length < 10000) :
    SN (B_law_heap_3 (hS n P m w b qs x6 (some (.sh (.int k))) x8 x9 x10 x11)) fun σ => ∃ n' q y8, 0 ≤ n' ∧ inF q ∧ σ = hS n' P m w b (addC qs q) x6 (some (.sh (.int k))) y8 x9 x10 x11 := by
  have k1 := kept_ok (b.1 + n % 81 / 9 - 1) (b.2 + n % 81 % 9 - 1)
  unfold B_law_heap_3
  walk_at "ev"
  simp only [sPut, ownD, List.getElem?_cons_zero, List.getElem?_cons_succ]
  walk_at "ev"
  rw [k1]
  walk_at "ev"
  exact SN_put (Nat.lt_trans h (by decide)) ⟨_, _, _, Int.ediv_nonneg hn0 (by decide), inF_kp _ _, rfl⟩
def cutC (qs : List (Int × Int)) (p : Int × Int) : List (Int × Int) := qs.filter fun q => !decide (q = p)
theorem drop_dct (qs : List (Int × Int)) (p : Int × Int) : dropD (dctT qs) (kOf p) = dctT (cutC qs p) := by
  induction qs with
  | nil => rfl
  | cons q qs ih =>
    have e : dctT (q :: qs) = (cellD q, .bool true) :: dctT qs := rfl
    unfold dropD cutC at *
    rw [e, List.filter_cons, List.filter_cons, ih]
    by_cases h : q = p
    · subst h
      rw [if_neg (by rw [key_cell]; simp), if_neg (by simp)]
    · have h1 : ¬ kOf q = kOf p := fun z => h (kOf_eq.mp z)
      rw [if_pos (by rw [key_cell]; exact decide_eq_true fun z => h1 (Option.some.inj z)), if_pos (by rw [decide_eq_false h]; rfl)]
      rfl
theorem mem_cutC {qs : List (Int × Int)} {p q : Int × Int} : q ∈ cutC qs p ↔ q ∈ qs ∧ q ≠ p := by
  unfold cutC
  rw [List.mem_filter]
  simp
theorem len_cutC {qs : List (Int × Int)} {p : Int × Int} (hn : qs.Nodup) (hp : p ∈ qs) : (cutC qs p).length + 1 = qs.length := by
  induction qs with
  | nil => cases hp
  | cons q qs ih =>
    obtain ⟨n1, n2⟩ := List.nodup_cons.mp hn
    unfold cutC at *
    rw [List.filter_cons]
    by_cases h : q = p
    · subst h
      rw [if_neg (by simp)]
      have : qs.filter (fun r => !decide (r = q)) = qs := List.filter_eq_self.mpr fun r hr => by
        have : r ≠ q := fun z => n1 (z ▸ hr)
        simpa using this
      rw [this, List.length_cons]
    · rw [if_pos (by rw [decide_eq_false h]; rfl), List.length_cons, List.length_cons, ih n2 ((List.mem_cons.mp hp).resolve_left fun z => h z.symm)]
theorem SN_pop {j : Nat} {σ : SS} {qs : List (Int × Int)} {p : Int × Int} {Q : SS → Prop} (hp : p ∈ qs) (k : Q (σ.set j (some (.ow (.dict (dctT (cutC qs p))))))) : SN (popK j σ (dctT qs) (cellD p) fun _ σ' => .ok .nx σ') Q := by
  have hv : (valK (dctT qs) (kOf p)).isSome = true := by
    rw [val_has]
    show (dctT qs).any _ = true
    rw [dct_any]
    exact decide_eq_true hp
  obtain ⟨d, hd⟩ := Option.isSome_iff_exists.mp hv
  refine ⟨_, ?_, k⟩
  unfold popK
  simp only [key_cell, hd, drop_dct]
theorem h4_turn (n k : Int) (qs : List (Int × Int)) (x6 x8 x9 x10 x11 : Option Slot) (hn0 : 0 ≤ n) (h0 : qs ≠ []) (h : qs.length < 10000) (hn : qs.Nodup) :
    SN (B_law_heap_4 (hS n P m w b qs x6 (some (.sh (.int k))) x8 x9 x10 x11)) fun σ => ∃ n' p y8, 0 ≤ n' ∧ p ∈ qs ∧ σ = hS n' P m w b (cutC qs p) x6 (some (.sh (.int k))) y8 x9 x10 x11 := by
  obtain ⟨L, hL, hL0, hL1⟩ : ∃ L : Int, lenAny [.dict (dctT qs)] = .ok (.int L) ∧ L = (qs.length : Int) ∧ 0 < L := by
    refine ⟨((dctT qs).length : Nat), by cases qs <;> rfl, by rw [dct_len], ?_⟩
    rw [dct_len]
    have : 0 < qs.length := List.length_pos_iff.mpr h0
    omega
  have dm : divmodD [.int n, .int L] = .ok (.tuple [.int (n / L), .int (n % L)]) := divmodI hL1 (log2_lt 20 (by omega) (by decide) hL1)
  have a0 := Int.emod_nonneg n (show L ≠ 0 by omega)
  have a1 := Int.emod_lt_of_pos n hL1
  have sl : (srt qs).length = qs.length := by
    have : srt qs = (riseK (dd (qs.map kOf))).map pOf := rfl
    rw [this, List.length_map, (riseK_perm _).length_eq, dd_nodup (kOf_nodup hn), List.length_map]
  have hk : (n % L).toNat < (srt qs).length := by omega
  have hx : (srt qs)[(n % L).toNat]? = some ((srt qs)[(n % L).toNat]) := List.getElem?_eq_getElem hk
  generalize hpp : (srt qs)[(n % L).toNat] = p at hx
  have hp : p ∈ qs := mem_srt.mp (List.mem_of_getElem? hx)
  have ix : ixD (.list ((srt qs).map cellD)) (.int (n % L)) = .ok (cellD p) := by
    have := (ix_at (l := (srt qs).map cellD) (k := (n % L).toNat) (d := cellD p) (by rw [List.getElem?_map, hx]; rfl)).2
    rw [show (((n % L).toNat : Nat) : Int) = n % L by omega] at this
    exact this
  unfold B_law_heap_4
  walk_at "ev"
  rw [hL]
  walk_at "ev"
  rw [dm]
  walk_at "ev"
  simp only [flat, flatA, sPopD, ownD, List.getElem?_cons_zero, List.getElem?_cons_succ]
  walk_at "ev"
  rw [sort_dct hn]
  walk_at "ev"
  rw [ix]
  walk_at "ev"
  simp only [flatA, flat]
  walk_at "ev"
  exact SN_pop hp ⟨_, p, _, Int.ediv_nonneg hn0 (by omega), hp, rfl⟩
end H20

namespace H70
open PySem PySem.Spec PyProof.Rows L2 E3 
local macro_rules | `(tactic| walk_at "ev") => `(tactic| try simp (disch := first | decide | decide +kernel | omega) only [fnD, xOr, xNot, startF, endF, sSeq, sAsg, sSet, sSetV, sAsgV, sIf, sRet, sNew, sNewV, sMut, sMutV, sFor, sForR, sFreeze, sNil, sExpr, optK, thenR_ok, thenR_exc, thenR_stuck,
  view, mask, E3.eVar_zero, E3.eVar_succ, eC, e1, e2, eCall, eTup, eLst, eSl, oNone, oSome, eAnd, eOr, eIf, E3.tAnd, E3.tOr, E3.tNot, E3.tB, asB, notD, aNil, aCons, Res.bind_ok, Res.bind_exc, Res.bind_stuck,
  gT, gsCons, gsNil, gN, tupD, lstD, Slot.dat, Slot.shd, List.length_cons, List.length_nil, List.map_cons, List.map_nil, List.replicate, List.append_nil, List.cons_append, List.nil_append, Option.map_some, Option.map_none, Option.bind_some, Option.bind_none,
  List.getElem?_cons_zero, List.getElem?_cons_succ, List.set_cons_zero, List.set_cons_succ, Nat.reduceAdd, Nat.reduceSub, Nat.reduceEqDiff, if_true, if_false, ite_true, ite_false, reduceIte, decide_true, decide_false, reduceCtorEq, Bool.not_true, Bool.not_false, Bool.false_eq_true, Bool.true_eq_false, Bool.or_true, Bool.true_or, Bool.false_or, Bool.or_false, Bool.and_true, Bool.and_false, Bool.true_and, Bool.false_and, addI, subI, ltI, leI, gtI, geI, eqI, neI, E3.negI, ix_cell0, ix_cell1, E3.le0, E3.le1, E3.le2, E3.le3, E3.le4, E3.le5, E3.le6, beq_self_eq_true, Int.reduceBEq, E3.divmodI, E3.modI, E3.fdivI, E3.powL, E3.mulLL, E3.isi_bool_none, E3.isi_bool_bool, E3.isi_bool_int, E3.isi_bool_str, E3.isi_bool_list, E3.isi_bool_tuple, E3.isi_int_none, E3.isi_int_bool, E3.isi_int_int, E3.isi_int_str, E3.isi_int_list, E3.isi_int_tuple, E3.isi_str_none, E3.isi_str_bool, E3.isi_str_int, E3.isi_str_str, E3.isi_str_list, E3.isi_str_tuple, E3.isi_list_none, E3.isi_list_bool, E3.isi_list_int, E3.isi_list_str, E3.isi_list_list, E3.isi_list_tuple, E3.isi_tuple_none, E3.isi_tuple_bool, E3.isi_tuple_int, E3.isi_tuple_str, E3.isi_tuple_list, E3.isi_tuple_tuple, E3.isN_none, E3.ntN_none, E3.isN_bool, E3.ntN_bool, E3.isN_int, E3.ntN_int, E3.isN_str, E3.ntN_str, E3.isN_list, E3.ntN_list, E3.isN_tuple, E3.ntN_tuple, E3.len_list, E3.len_tup, E3.seq_list, E3.seq_tup, E3.tup_list, E3.tup_tup, E3.lst_list, E3.lst_tup, xM, xV, xB, xTB, x2, xAnd, xNil, xCons, xTup, xLst, xCall, xSl, xPotd, ownXd, potKd, ePotE, dropKV, fnPd, startPd, endPd, slL, eSlL, xPot, ownX, potK, XR.bind_ok, XR.bind_exc, XR.bind_stuck, XR.of_ok, XR.of_exc, XR.of_stuck, thenX_ok, thenX_exc, thenX_stuck, qSet, qRet, qIf, qAsg, qForR, qFor, H70.fR_i, H70.fR_b, H70.fR_ii, H70.fR_c, fnP, startP, endP, fnL, startL, endL, xPotL, xLast, fnN, endN, E3.ix_lst0, Int.cast_ofNat_Int])
local macro_rules | `(tactic| walk_at "evs") => `(tactic| try simp (disch := first | decide | decide +kernel | omega) only [fnD, xOr, xNot, startF, endF, sSeq, sAsg, sSet, sSetV, sAsgV, sIf, sRet, sNew, sNewV, sMut, sMutV, sFor, sForR, sFreeze, sNil, sExpr, optK, thenR_ok, thenR_exc, thenR_stuck,
  view, mask, E3.eVar_zero, E3.eVar_succ, eC, e1, e2, eCall, eTup, eLst, eSl, oNone, oSome, eAnd, eOr, eIf, E3.tAnd, E3.tOr, E3.tNot, E3.tB, asB, notD, aNil, aCons, Res.bind_ok, Res.bind_exc, Res.bind_stuck,
  gT, gsCons, gsNil, gN, tupD, lstD, Slot.dat, Slot.shd, List.length_cons, List.length_nil, List.map_cons, List.map_nil, List.replicate, List.append_nil, List.cons_append, List.nil_append, Option.map_some, Option.map_none, Option.bind_some, Option.bind_none,
  List.getElem?_cons_zero, List.getElem?_cons_succ, List.set_cons_zero, List.set_cons_succ, Nat.reduceAdd, Nat.reduceSub, Nat.reduceEqDiff, if_true, if_false, ite_true, ite_false, reduceIte, decide_true, decide_false, reduceCtorEq, Bool.not_true, Bool.not_false, Bool.false_eq_true, Bool.true_eq_false, Bool.or_true, Bool.true_or, Bool.false_or, Bool.or_false, Bool.and_true, Bool.and_false, Bool.true_and, Bool.false_and, addI, subI, ltI, leI, gtI, geI, eqI, neI, E3.negI, ix_cell0, ix_cell1, E3.le0, E3.le1, E3.le2, E3.le3, E3.le4, E3.le5, E3.le6, beq_self_eq_true, Int.reduceBEq, E3.divmodI, E3.modI, E3.fdivI, E3.powL, E3.mulLL, E3.isi_bool_none, E3.isi_bool_bool, E3.isi_bool_int, E3.isi_bool_str, E3.isi_bool_list, E3.isi_bool_tuple, E3.isi_int_none, E3.isi_int_bool, E3.isi_int_int, E3.isi_int_str, E3.isi_int_list, E3.isi_int_tuple, E3.isi_str_none, E3.isi_str_bool, E3.isi_str_int, E3.isi_str_str, E3.isi_str_list, E3.isi_str_tuple, E3.isi_list_none, E3.isi_list_bool, E3.isi_list_int, E3.isi_list_str, E3.isi_list_list, E3.isi_list_tuple, E3.isi_tuple_none, E3.isi_tuple_bool, E3.isi_tuple_int, E3.isi_tuple_str, E3.isi_tuple_list, E3.isi_tuple_tuple, E3.isN_none, E3.ntN_none, E3.isN_bool, E3.ntN_bool, E3.isN_int, E3.ntN_int, E3.isN_str, E3.ntN_str, E3.isN_list, E3.ntN_list, E3.isN_tuple, E3.ntN_tuple, E3.len_list, E3.len_tup, E3.seq_list, E3.seq_tup, E3.tup_list, E3.tup_tup, E3.lst_list, E3.lst_tup, xM, xV, xB, xTB, x2, xAnd, xNil, xCons, xTup, xLst, xCall, xSl, xPotd, ownXd, potKd, ePotE, dropKV, fnPd, startPd, endPd, slL, eSlL, xPot, ownX, potK, XR.bind_ok, XR.bind_exc, XR.bind_stuck, XR.of_ok, XR.of_exc, XR.of_stuck, thenX_ok, thenX_exc, thenX_stuck, qSet, qRet, qIf, qAsg, qForR, qFor, H70.fR_i, H70.fR_b, H70.fR_ii, H70.fR_c, fnP, startP, endP, fnL, startL, endL, xPotL, xLast, fnN, endN, E3.ix_lst0, Int.cast_ofNat_Int, *])
noncomputable section
def C_law_base_1 : SF := (sRet (eTup (aCons (eTup (aCons (eC (.int 0)) (aCons (eC (.int 0)) aNil))) (aCons (eVar 0) aNil))))
def D_law_base : List D → Res D := fnD 5 1 (sSeq (sAsg (gT 2 (gsCons (gN 0) (gsCons (gN 1) gsNil))) (eCall divmodD (aCons (eVar 0) (aCons (eC (.int 5)) aNil))))
  (sSeq (sIf (tB (e2 gtD (eVar 1) (eC (.int 1)))) C_law_base_1 sNil)
  (sSeq (sAsg (gT 2 (gsCons (gN 0) (gsCons (gN 2) gsNil))) (eCall divmodD (aCons (eVar 0) (aCons (e2 ixD (eLst (aCons (e2 addD (e2 mulD (eC (.int 2)) (e2 powD (eC (.int 10)) (eC (.int 12)))) (eC (.int 1))) (aCons (eC (.int 2)) aNil))) (eVar 1)) aNil))))
  (sSeq (sAsg (gT 2 (gsCons (gN 0) (gsCons (gN 3) gsNil))) (eCall divmodD (aCons (eVar 0) (aCons (e2 ixD (eLst (aCons (e2 addD (e2 mulD (eC (.int 2)) (e2 powD (eC (.int 10)) (eC (.int 12)))) (eC (.int 1))) (aCons (eC (.int 2)) aNil))) (eVar 1)) aNil))))
  (sSeq (sSet 4 (e2 ixD (eLst (aCons (eC (.int 1)) (aCons (e2 mulD (eC (.int 2)) (e2 powD (eC (.int 10)) (eC (.int 12)))) aNil))) (eVar 1)))
  (sRet (eTup (aCons (eTup (aCons (e2 subD (e2 mulD (eVar 2) (eVar 4)) (e2 powD (eC (.int 10)) (eC (.int 12)))) (aCons (e2 subD (e2 mulD (eVar 3) (eVar 4)) (e2 powD (eC (.int 10)) (eC (.int 12)))) aNil))) (aCons (eVar 0) aNil)))))))))
def D_law_kept : List D → Res D := fnD 2 2 (sRet (eTup (aCons (eCall max2D (aCons (e1 negD (e2 powD (eC (.int 10)) (eC (.int 12)))) (aCons (eCall min2D (aCons (e2 powD (eC (.int 10)) (eC (.int 12))) (aCons (eVar 0) aNil))) aNil))) (aCons (eCall max2D (aCons (e1 negD (e2 powD (eC (.int 10)) (eC (.int 12)))) (aCons (eCall min2D (aCons (e2 powD (eC (.int 10)) (eC (.int 12))) (aCons (eVar 1) aNil))) aNil))) aNil))))
def I_law_board_1 : DS → Res (List D) := (fun σ => ((aCons (e2 addD (eVar 4) (eC (.int 1))) aNil) σ).bind rng1)
def B_law_board_1 : SF := (sSeq (sAsg (gT 2 (gsCons (gN 0) (gsCons (gN 6) gsNil))) (eCall divmodD (aCons (eVar 0) (aCons (eC (.int 25)) aNil))))
  (sPut 3 (eCall D_law_kept (aCons (e2 addD (e2 ixD (eVar 2) (eC (.int 0))) (e2 fdivD (eVar 6) (eC (.int 5)))) (aCons (e2 addD (e2 ixD (eVar 2) (eC (.int 1))) (e2 modD (eVar 6) (eC (.int 5)))) aNil))) (eC (.bool true))))
def C_law_board_1 : SF := (sFor I_law_board_1 (gN 5)
  B_law_board_1)
def C_law_board_2 : SF := (sPut 3 (eCall D_law_kept (aCons (e2 addD (e2 addD (e2 ixD (eVar 2) (eC (.int 0))) (eVar 7)) (eVar 10)) (aCons (e2 addD (e2 subD (e2 addD (e2 ixD (eVar 2) (eC (.int 1))) (e2 mulD (eC (.int 3)) (eVar 5))) (eVar 7)) (eVar 11)) aNil))) (eC (.bool true)))
def I_law_board_2 : DS → Res (List D) := (fun σ => ((aCons (e2 addD (eC (.int 1)) (eVar 9)) aNil) σ).bind rng1)
def B_law_board_2 : SF := (sIf (E3.tOr (tB (e2 inG (eVar 10) (eTup (aCons (eC (.int 0)) (aCons (eVar 8) aNil))))) (tB (e2 inG (eVar 11) (eTup (aCons (eC (.int 0)) (aCons (eVar 9) aNil)))))) C_law_board_2 sNil)
def I_law_board_3 : DS → Res (List D) := (fun σ => ((aCons (e2 addD (eC (.int 1)) (eVar 8)) aNil) σ).bind rng1)
def B_law_board_3 : SF := (sFor I_law_board_2 (gN 11)
  B_law_board_2)
def I_law_board_4 : DS → Res (List D) := (fun σ => ((aCons (e2 addD (eC (.int 1)) (e2 modD (eVar 4) (eC (.int 3)))) aNil) σ).bind rng1)
def B_law_board_4 : SF := (sSeq (sAsg (gT 2 (gsCons (gN 0) (gsCons (gN 7) gsNil))) (eCall divmodD (aCons (eVar 0) (aCons (eC (.int 4)) aNil))))
  (sSeq (sAsg (gT 2 (gsCons (gN 0) (gsCons (gN 8) gsNil))) (eCall divmodD (aCons (eVar 0) (aCons (eC (.int 5)) aNil))))
  (sSeq (sAsg (gT 2 (gsCons (gN 0) (gsCons (gN 9) gsNil))) (eCall divmodD (aCons (eVar 0) (aCons (eC (.int 5)) aNil))))
  (sFor I_law_board_3 (gN 10)
  B_law_board_3))))
def C_law_board_3 : SF := (sFor I_law_board_4 (gN 5)
  B_law_board_4)
def C_law_board_4 : SF := (sPut 3 (eCall D_law_kept (aCons (e2 addD (e2 ixD (eVar 2) (eC (.int 0))) (eVar 10)) (aCons (e2 addD (e2 ixD (eVar 2) (eC (.int 1))) (eVar 11)) aNil))) (eC (.bool true)))
def I_law_board_5 : DS → Res (List D) := (fun σ => ((aCons (eC (.int 6)) aNil) σ).bind rng1)
def B_law_board_5 : SF := (sIf (tB (e2 eqD (e2 andD (e2 shrD (eVar 12) (eVar 11)) (eC (.int 1))) (eC (.int 1)))) C_law_board_4 sNil)
def I_law_board_6 : DS → Res (List D) := (fun σ => ((aCons (e2 addD (eVar 4) (eC (.int 1))) aNil) σ).bind rng1)
def B_law_board_6 : SF := (sSeq (sAsg (gT 2 (gsCons (gN 0) (gsCons (gN 12) gsNil))) (eCall divmodD (aCons (eVar 0) (aCons (eC (.int 64)) aNil))))
  (sFor I_law_board_5 (gN 11)
  B_law_board_5))
def C_law_board_5 : SF := (sFor I_law_board_6 (gN 10)
  B_law_board_6)
def I_law_board_7 : DS → Res (List D) := (fun σ => ((aCons (eCall min2D (aCons (eVar 13) (aCons (eCall lenAny (aCons (eVar 3) aNil)) aNil))) aNil) σ).bind rng1)
def B_law_board_7 : SF := (sSeq (sAsgV (gT 2 (gsCons (gN 0) (gsCons (gN 6) gsNil))) (eCall divmodD (aCons (eVar 0) (aCons (eCall lenAny (aCons (eVar 3) aNil)) aNil))))
  (sPopD 3 (aCons (e2 ixD (eCall sortAnyD (aCons (eVar 3) aNil)) (eVar 6)) aNil)))
def T_law_board_1 : SF := (sFreeze 3 (sRet (eTup (aCons (eCall tupleD (aCons (eCall sortAnyD (aCons (eVar 3) aNil)) aNil)) (aCons (eVar 0) aNil)))))
def D_law_board : List D → Res D := fnD 14 1 (sSeq (sAsg (gT 2 (gsCons (gN 0) (gsCons (gN 1) gsNil))) (eCall divmodD (aCons (eVar 0) (aCons (eC (.int 5)) aNil))))
  (sSeq (sAsg (gT 2 (gsCons (gN 2) (gsCons (gN 0) gsNil))) (eCall D_law_base (aCons (eVar 0) aNil)))
  (sSeq (sNew 3 (eC (.dict [])))
  (sSeq (sAsg (gT 2 (gsCons (gN 0) (gsCons (gN 4) gsNil))) (eCall divmodD (aCons (eVar 0) (aCons (eC (.int 6)) aNil))))
  (sSeq (sIf (tB (e2 eqD (eVar 1) (eC (.int 0)))) C_law_board_1 sNil)
  (sSeq (sIf (tB (e2 eqD (eVar 1) (eC (.int 1)))) C_law_board_3 sNil)
  (sSeq (sIf (tB (e2 gtD (eVar 1) (eC (.int 1)))) C_law_board_5 sNil)
  (sSeq (sAsg (gT 2 (gsCons (gN 0) (gsCons (gN 13) gsNil))) (eCall divmodD (aCons (eVar 0) (aCons (eC (.int 3)) aNil))))
  (sSeq (sForR I_law_board_7 (gN 5)
  B_law_board_7)
  T_law_board_1)))))))))
theorem base_is : D_law_base = H20.D_law_base := rfl
theorem kept_is : D_law_kept = H20.D_law_kept := rfl
theorem base_ok (n : Int) (hn : 0 ≤ n) : ∃ (b : Pt) (n' : Int), 0 ≤ n' ∧ D_law_base [.int n] = .ok (.tuple [cellD b, .int n']) := by rw [base_is]; exact H20.base_ok n hn
abbrev kp := H20.kp
structure Gd (L : List Pt) : Prop where
  nd : L.Nodup
  bd : ∀ p ∈ L, H20.inF p
theorem Gd.nil : Gd [] := ⟨List.nodup_nil, fun p h => by cases h⟩
theorem Gd.add {L : List Pt} (h : Gd L) (r c : Int) : Gd (addC L (kp r, kp c)) := ⟨nd_addC h.nd, fun p hp => (mem_addC.mp hp).elim (h.bd p) fun e => by rw [e]; exact H20.inF_kp r c⟩
theorem Gd.flt {L : List Pt} (h : Gd L) (f : Pt → Bool) : Gd (L.filter f) := ⟨h.nd.filter _, fun p hp => h.bd p (List.mem_filter.mp hp).1⟩
theorem kept_ok (r c : Int) : ∃ q : Pt, D_law_kept [.int r, .int c] = .ok (cellD q) := ⟨_, by rw [kept_is]; exact H20.kept_ok r c⟩
theorem rngI {n : Int} (h : -(2 ^ 62) ≤ n ∧ n < 2 ^ 62) : rng1 [.int n] = .ok (rangeD 0 n) := if_pos h
theorem loop_cnt {p : GF} {body : SF} {Inv : Nat → SS → Prop} (m : Nat) : ∀ (ds : List D) (n : Nat) (σ : SS), Inv n σ → (∀ d ∈ ds, ∀ k, n ≤ k → k + m ≤ n + m * ds.length → ∀ σ, Inv k σ → ∃ σ1, p d σ = some σ1 ∧ SN (body σ1) (Inv (k + m))) → SN (forS p body ds σ) (Inv (n + m * ds.length))
  | [], n, σ, h, _ => ⟨σ, rfl, by simpa using h⟩
  | d :: ds, n, σ, h, st => by
    have hm : m * (d :: ds).length = m + m * ds.length := by rw [List.length_cons, Nat.mul_succ, Nat.add_comm]
    rw [hm] at st ⊢
    obtain ⟨σ1, h1, σ2, h2, h3⟩ := st d List.mem_cons_self n (Nat.le_refl _) (by omega) σ h
    obtain ⟨σ3, h4, h5⟩ := loop_cnt m ds (n + m) σ2 h3 fun e he k k1 k2 σ hk => st e (List.mem_cons_of_mem _ he) k (by omega) (by omega) σ hk
    refine ⟨σ3, (forS_cons h1 h2).trans h4, ?_⟩
    rw [← Nat.add_assoc]; exact h5
theorem SNmono {r : SR} {P Q : SS → Prop} (h : SN r P) (k : ∀ σ, P σ → Q σ) : SN r Q := SN.mono h k
theorem range_mem {n : Int} {d : D} (h : d ∈ rangeD 0 n) : ∃ i : Int, d = .int i ∧ 0 ≤ i ∧ i < n := by
  obtain ⟨i, hi, rfl⟩ := List.mem_map.mp h
  have := List.mem_range.mp hi
  exact ⟨_, rfl, by omega, by omega⟩
theorem range_len (n : Int) : (rangeD 0 n).length = n.toNat := by unfold rangeD; rw [List.length_map, List.length_range]; congr 1; omega
abbrev O := Option E3.Slot
abbrev sB (n w : Int) (b : Pt) (L : List Pt) (m : Int) (x5 x6 x7 x8 x9 x10 x11 x12 x13 : O) : SS :=
  [some (.sh (.int n)), some (.sh (.int w)), some (.sh (cellD b)), some (.ow (.dict (dctT L))), some (.sh (.int m)), x5, x6, x7, x8, x9, x10, x11, x12, x13]
def BI (w : Int) (b : Pt) (m : Int) (k : Nat) (σ : SS) : Prop := ∃ (n : Int) (L : List Pt) (x5 x6 x7 x8 x9 x10 x11 x12 x13 : O), 0 ≤ n ∧ Gd L ∧ L.length ≤ k ∧ σ = sB n w b L m x5 x6 x7 x8 x9 x10 x11 x12 x13
theorem BI.le {w : Int} {b : Pt} {m : Int} {k j : Nat} {σ : SS} (h : BI w b m k σ) (l : k ≤ j) : BI w b m j σ := by
  obtain ⟨n, L, x5, x6, x7, x8, x9, x10, x11, x12, x13, h0, h1, h2, h3⟩ := h
  exact ⟨n, L, x5, x6, x7, x8, x9, x10, x11, x12, x13, h0, h1, by omega, h3⟩
theorem put_cell {i : Nat} {σ : SS} {L : List Pt} {q : Pt} (hl : L.length < 900000) : putS i σ (dctT L) (cellD q) (.bool true) = .ok .nx (σ.set i (some (.ow (.dict (dctT (addC L q)))))) := putS_dct (by rw [sizeLine_eq]; omega)
theorem way0 (w : Int) (b : Pt) (m : Int) (hm : 0 ≤ m ∧ m < 6) (k : Nat) (hk : k < 1000) (σ : SS) (h : BI w b m k σ) : SN (C_law_board_1 σ) (BI w b m (k + 6)) := by
  obtain ⟨n, L, x5, x6, x7, x8, x9, x10, x11, x12, x13, h0, h1, h2, rfl⟩ := h
  unfold C_law_board_1 I_law_board_1
  walk_at "ev"
  rw [rngI (by omega)]
  walk_at "ev"
  refine SNmono (loop_cnt (Inv := BI w b m) 1 (rangeD 0 (m + 1)) k _ ⟨n, L, x5, x6, x7, x8, x9, x10, x11, x12, x13, h0, h1, h2, rfl⟩ ?_) fun σ z => z.le (by rw [range_len]; omega)
  rintro d hd j j1 j2 σ ⟨n, L, x5, x6, x7, x8, x9, x10, x11, x12, x13, h0, h1, h2, rfl⟩
  rw [range_len] at j2
  refine ⟨_, rfl, ?_⟩
  unfold B_law_board_1
  walk_at "ev"
  simp only [sPut, ownD, List.getElem?_cons_succ, List.getElem?_cons_zero]
  walk_at "ev"
  rw [kept_is, H20.kept_ok]
  walk_at "ev"
  rw [put_cell (by omega)]
  exact SN.ok ⟨n / 25, addC L (kp (b.1 + n % 25 / 5), kp (b.2 + n % 25 % 5)), _, _, _, _, _, _, _, _, _, by omega, h1.add _ _, by have := len_addC L (kp (b.1 + n % 25 / 5), kp (b.2 + n % 25 % 5)); omega, rfl⟩
abbrev iS (i : Int) : O := some (.sh (.int i))
theorem in2 (i a c : Int) : ∃ t : Bool, inG (.int i) (.tuple [.int a, .int c]) = .ok (.bool t) := ⟨_, rfl⟩
theorem mul3 {k : Int} (h : 0 ≤ k ∧ k < 1000) : mulD (.int 3) (.int k) = .ok (.int (3 * k)) := E3.mulLL (decide_eq_true ⟨by decide, by
  have : k.natAbs < 1000 := by omega
  exact Nat.lt_trans this (by decide)⟩)
theorem box_cell (n w : Int) (b : Pt) (L : List Pt) (m k top tall wide r q : Int) (x6 x12 x13 : O) (hk : 0 ≤ k ∧ k < 1000) (nd : Gd L) (hl : L.length < 900000) :
    ∃ M, Gd M ∧ M.length ≤ L.length + 1 ∧ B_law_board_2 (sB n w b L m (iS k) x6 (iS top) (iS tall) (iS wide) (iS r) (iS q) x12 x13) = .ok .nx (sB n w b M m (iS k) x6 (iS top) (iS tall) (iS wide) (iS r) (iS q) x12 x13) := by
  obtain ⟨t1, e1⟩ := in2 r 0 tall
  obtain ⟨t2, f2⟩ := in2 q 0 wide
  have go : C_law_board_2 (sB n w b L m (iS k) x6 (iS top) (iS tall) (iS wide) (iS r) (iS q) x12 x13) = .ok .nx (sB n w b (addC L (kp (b.1 + top + r), kp (b.2 + 3 * k - top + q))) m (iS k) x6 (iS top) (iS tall) (iS wide) (iS r) (iS q) x12 x13) := by
    unfold C_law_board_2
    simp only [sPut, ownD, List.getElem?_cons_succ, List.getElem?_cons_zero]
    walk_at "ev"
    rw [mul3 hk]
    walk_at "ev"
    rw [kept_is, H20.kept_ok]
    walk_at "ev"
    rw [put_cell hl]
    rfl
  have big : ∃ t : Bool, B_law_board_2 (sB n w b L m (iS k) x6 (iS top) (iS tall) (iS wide) (iS r) (iS q) x12 x13) = if t = true then C_law_board_2 (sB n w b L m (iS k) x6 (iS top) (iS tall) (iS wide) (iS r) (iS q) x12 x13) else .ok .nx (sB n w b L m (iS k) x6 (iS top) (iS tall) (iS wide) (iS r) (iS q) x12 x13) := by
    unfold B_law_board_2
    walk_at "ev"
    rw [e1]
    walk_at "ev"
    cases t1 with
    | true => exact ⟨true, by walk_at "ev"⟩
    | false =>
      walk_at "ev"
      rw [f2]
      walk_at "ev"
      exact ⟨t2, rfl⟩
  obtain ⟨t, e⟩ := big
  cases t with
  | true => exact ⟨_, nd.add _ _, len_addC L _, e.trans go⟩
  | false => exact ⟨L, nd, by omega, e⟩
theorem box_row (n w : Int) (b : Pt) (L : List Pt) (m k top tall wide r : Int) (x6 x11 x12 x13 : O) (hk : 0 ≤ k ∧ k < 1000) (hw : 0 ≤ wide ∧ wide < 5) (nd : Gd L) (hl : L.length < 800000) :
    SN (B_law_board_3 (sB n w b L m (iS k) x6 (iS top) (iS tall) (iS wide) (iS r) x11 x12 x13)) (fun σ => ∃ M y11, Gd M ∧ M.length ≤ L.length + 5 ∧ σ = sB n w b M m (iS k) x6 (iS top) (iS tall) (iS wide) (iS r) y11 x12 x13) := by
  unfold B_law_board_3 I_law_board_2
  walk_at "ev"
  rw [rngI (by omega)]
  walk_at "ev"
  refine SNmono (loop_cnt (Inv := fun j σ => ∃ M y11, Gd M ∧ M.length ≤ j ∧ σ = sB n w b M m (iS k) x6 (iS top) (iS tall) (iS wide) (iS r) y11 x12 x13) 1 (rangeD 0 (1 + wide)) L.length _ ⟨L, x11, nd, Nat.le_refl _, rfl⟩ ?_) ?_
  · rintro d hd j j1 j2 σ ⟨M, y11, h1, h2, rfl⟩
    rw [range_len] at j2
    obtain ⟨q, rfl, q1, q2⟩ := range_mem hd
    obtain ⟨M2, g1, g2, g3⟩ := box_cell n w b M m k top tall wide r q x6 x12 x13 hk h1 (by omega)
    exact ⟨_, rfl, _, g3, M2, _, g1, by omega, rfl⟩
  · rintro σ ⟨M, y11, h1, h2, h3⟩
    rw [range_len] at h2
    exact ⟨M, y11, h1, by omega, h3⟩
theorem box_rows (n w : Int) (b : Pt) (L : List Pt) (m k top tall wide : Int) (x6 x10 x11 x12 x13 : O) (hk : 0 ≤ k ∧ k < 1000) (ht : 0 ≤ tall ∧ tall < 5) (hw : 0 ≤ wide ∧ wide < 5) (nd : Gd L) (hl : L.length < 700000) :
    SN (sFor I_law_board_3 (gN 10) B_law_board_3 (sB n w b L m (iS k) x6 (iS top) (iS tall) (iS wide) x10 x11 x12 x13)) (fun σ => ∃ M y10 y11, Gd M ∧ M.length ≤ L.length + 25 ∧ σ = sB n w b M m (iS k) x6 (iS top) (iS tall) (iS wide) y10 y11 x12 x13) := by
  unfold I_law_board_3
  walk_at "ev"
  rw [rngI (by omega)]
  walk_at "ev"
  refine SNmono (loop_cnt (Inv := fun j σ => ∃ M y10 y11, Gd M ∧ M.length ≤ j ∧ σ = sB n w b M m (iS k) x6 (iS top) (iS tall) (iS wide) y10 y11 x12 x13) 5 (rangeD 0 (1 + tall)) L.length _ ⟨L, x10, x11, nd, Nat.le_refl _, rfl⟩ ?_) ?_
  · rintro d hd j j1 j2 σ ⟨M, y10, y11, h1, h2, rfl⟩
    rw [range_len] at j2
    obtain ⟨q, rfl, q1, q2⟩ := range_mem hd
    refine ⟨_, rfl, SNmono (box_row n w b M m k top tall wide q x6 y11 x12 x13 hk hw h1 (by omega)) ?_⟩
    rintro σ ⟨M2, y, g1, g2, g3⟩
    exact ⟨M2, _, y, g1, by omega, g3⟩
  · rintro σ ⟨M, y10, y11, h1, h2, h3⟩
    rw [range_len] at h2
    exact ⟨M, y10, y11, h1, by omega, h3⟩
theorem way1 (w : Int) (b : Pt) (m : Int) (hm : 0 ≤ m ∧ m < 6) (k : Nat) (hk : k < 1000) (σ : SS) (h : BI w b m k σ) : SN (C_law_board_3 σ) (BI w b m (k + 75)) := by
  obtain ⟨n, L, x5, x6, x7, x8, x9, x10, x11, x12, x13, h0, h1, h2, rfl⟩ := h
  unfold C_law_board_3 I_law_board_4
  walk_at "ev"
  generalize hm3 : m % 3 = m3
  rw [rngI (by omega)]
  walk_at "ev"
  refine SNmono (loop_cnt (Inv := BI w b m) 25 (rangeD 0 (1 + m3)) k _ ⟨n, L, x5, x6, x7, x8, x9, x10, x11, x12, x13, h0, h1, h2, rfl⟩ ?_) fun σ z => z.le (by rw [range_len]; omega)
  rintro d hd j j1 j2 σ ⟨n, L, x5, x6, x7, x8, x9, x10, x11, x12, x13, h0, h1, h2, rfl⟩
  rw [range_len] at j2
  obtain ⟨i, rfl, i1, i2⟩ := range_mem hd
  refine ⟨_, rfl, ?_⟩
  unfold B_law_board_4
  walk_at "ev"
  obtain ⟨σ2, e, M, y10, y11, g1, g2, rfl⟩ := box_rows (n / 4 / 5 / 5) w b L m i (n % 4) (n / 4 % 5) (n / 4 / 5 % 5) x6 x10 x11 x12 x13 (by omega) (by omega) (by omega) h1 (by omega)
  rw [show sFor I_law_board_3 (gN 10) B_law_board_3 = fun σ => sFor I_law_board_3 (gN 10) B_law_board_3 σ from rfl] at e
  unfold sFor at e
  refine ⟨_, e, ?_⟩
  exact ⟨n / 4 / 5 / 5, M, _, _, _, _, _, _, _, _, _, by omega, g1, by omega, rfl⟩
theorem bit_cell (n w : Int) (b : Pt) (L : List Pt) (m r q bits : Int) (x5 x6 x7 x8 x9 x13 : O) (hq : 0 ≤ q) (nd : Gd L) (hl : L.length < 900000) :
    ∃ M, Gd M ∧ M.length ≤ L.length + 1 ∧ B_law_board_5 (sB n w b L m x5 x6 x7 x8 x9 (iS r) (iS q) (iS bits) x13) = .ok .nx (sB n w b M m x5 x6 x7 x8 x9 (iS r) (iS q) (iS bits) x13) := by
  have go : C_law_board_4 (sB n w b L m x5 x6 x7 x8 x9 (iS r) (iS q) (iS bits) x13) = .ok .nx (sB n w b (addC L (kp (b.1 + r), kp (b.2 + q))) m x5 x6 x7 x8 x9 (iS r) (iS q) (iS bits) x13) := by
    unfold C_law_board_4
    simp only [sPut, ownD, List.getElem?_cons_succ, List.getElem?_cons_zero]
    walk_at "ev"
    rw [kept_is, H20.kept_ok]
    walk_at "ev"
    rw [put_cell hl]
    rfl
  have big : ∃ t : Bool, B_law_board_5 (sB n w b L m x5 x6 x7 x8 x9 (iS r) (iS q) (iS bits) x13) = if t = true then C_law_board_4 (sB n w b L m x5 x6 x7 x8 x9 (iS r) (iS q) (iS bits) x13) else .ok .nx (sB n w b L m x5 x6 x7 x8 x9 (iS r) (iS q) (iS bits) x13) := by
    unfold B_law_board_5
    walk_at "ev"
    rw [show shrD (.int bits) (.int q) = .ok (.int (bits / 2 ^ q.toNat)) from iop_ok (decide_eq_true hq)]
    walk_at "ev"
    rw [show ∀ i : Int, andD (.int i) (.int 1) = .ok (.int (Builtin.bitAnd i 1)) from fun i => rfl]
    walk_at "ev"
    exact ⟨_, rfl⟩
  obtain ⟨t, e⟩ := big
  cases t with
  | true => exact ⟨_, nd.add _ _, len_addC L _, e.trans go⟩
  | false => exact ⟨L, nd, by omega, e⟩
theorem way2 (w : Int) (b : Pt) (m : Int) (hm : 0 ≤ m ∧ m < 6) (k : Nat) (hk : k < 1000) (σ : SS) (h : BI w b m k σ) : SN (C_law_board_5 σ) (BI w b m (k + 36)) := by
  obtain ⟨n, L, x5, x6, x7, x8, x9, x10, x11, x12, x13, h0, h1, h2, rfl⟩ := h
  unfold C_law_board_5 I_law_board_6
  walk_at "ev"
  rw [rngI (by omega)]
  walk_at "ev"
  refine SNmono (loop_cnt (Inv := BI w b m) 6 (rangeD 0 (m + 1)) k _ ⟨n, L, x5, x6, x7, x8, x9, x10, x11, x12, x13, h0, h1, h2, rfl⟩ ?_) fun σ z => z.le (by rw [range_len]; omega)
  rintro d hd j j1 j2 σ ⟨n, L, x5, x6, x7, x8, x9, x10, x11, x12, x13, h0, h1, h2, rfl⟩
  rw [range_len] at j2
  obtain ⟨i, rfl, i1, i2⟩ := range_mem hd
  refine ⟨_, rfl, ?_⟩
  unfold B_law_board_6 I_law_board_5
  walk_at "ev"
  rw [rngI (by omega)]
  walk_at "ev"
  refine SNmono (loop_cnt (Inv := fun j σ => ∃ M y11, Gd M ∧ M.length ≤ j ∧ σ = sB (n / 64) w b M m x5 x6 x7 x8 x9 (iS i) y11 (iS (n % 64)) x13) 1 (rangeD 0 6) L.length _ ⟨L, x11, h1, Nat.le_refl _, rfl⟩ ?_) ?_
  · rintro d hd j j1 j2 σ ⟨M, y11, h1, h2, rfl⟩
    rw [range_len] at j2
    obtain ⟨q, rfl, q1, q2⟩ := range_mem hd
    obtain ⟨M2, g1, g2, g3⟩ := bit_cell (n / 64) w b M m i q (n % 64) x5 x6 x7 x8 x9 x13 q1 h1 (by have : (6 : Int).toNat = 6 := rfl; omega)
    exact ⟨_, rfl, _, g3, M2, _, g1, by omega, rfl⟩
  · rintro σ ⟨M, y11, h1, h2, rfl⟩
    rw [range_len] at h2
    exact ⟨n / 64, M, _, _, _, _, _, _, _, _, _, by omega, h1, by have : (6 : Int).toNat = 6 := rfl; omega, rfl⟩
theorem srt_same {L : List Pt} (nd : L.Nodup) : (srt L).length = L.length := ((List.perm_ext_iff_of_nodup (pw_nodup (pw_srt L)) nd).mpr fun _ => mem_srt).length_eq
theorem lenA_dct (L : List Pt) : lenAny [.dict (dctT L)] = .ok (.int (L.length : Nat)) := by
  have h0 : obK (dctT L) = false := by cases L <;> rfl
  show (if obK (dctT L) then Res.stuck else Res.ok (PyData.int ((dctT L).length : Nat))) = _
  rw [h0, dct_len]
  rfl
theorem min2I (i j : Int) : min2D [.int i, .int j] = .ok (.int (if j < i then j else i)) := rfl
theorem pop_turn (n w : Int) (b : Pt) (L : List Pt) (m : Int) (x5 x6 x7 x8 x9 x10 x11 x12 x13 : O) (h0 : 0 ≤ n) (nd : Gd L) (hl : L.length < 900000) (hp : 0 < L.length) :
    ∃ q ∈ L, B_law_board_7 (sB n w b L m x5 x6 x7 x8 x9 x10 x11 x12 x13) = .ok .nx (sB (n / (L.length : Nat)) w b (L.filter fun x => decide (x ≠ q)) m x5 (iS (n % (L.length : Nat))) x7 x8 x9 x10 x11 x12 x13) := by
  obtain ⟨c, hc⟩ : ∃ c : Int, c = (L.length : Nat) := ⟨_, rfl⟩
  rw [← hc]
  have c0 : 0 < c := by omega
  have hat : (n % c).toNat < (srt L).length := by
    have := Int.emod_lt_of_pos n c0
    have := Int.emod_nonneg n (Int.ne_of_gt c0)
    rw [srt_same nd.nd]; omega
  obtain ⟨q, hq⟩ : ∃ q, (srt L)[(n % c).toNat]? = some q := ⟨_, List.getElem?_eq_getElem hat⟩
  have hq2 : q ∈ L := mem_srt.mp (List.mem_of_getElem? hq)
  refine ⟨q, hq2, ?_⟩
  unfold B_law_board_7
  walk_at "ev"
  rw [lenA_dct, ← hc]
  walk_at "ev"
  rw [E3.divmodI c0 (E3.log2_lt 40 (by omega) (by decide) c0)]
  walk_at "ev"
  rw [flat2, if_pos rfl]
  simp only [sPopD, ownD, List.getElem?_cons_succ, List.getElem?_cons_zero]
  walk_at "ev"
  rw [sort_dct nd.nd]
  walk_at "ev"
  obtain ⟨a, ha⟩ : ∃ a : Nat, (a : Int) = n % c := ⟨(n % c).toNat, by have := Int.emod_nonneg n (Int.ne_of_gt c0); omega⟩
  rw [show (n % c).toNat = a by omega] at hq
  rw [← ha, ix_lst hq]
  walk_at "ev"
  rw [show flatA [cellD q] = true from rfl, if_pos rfl, pop_dct hq2]
  rfl
theorem pops (w : Int) (b : Pt) (m : Int) (n g : Int) (L : List Pt) (x5 x6 x7 x8 x9 x10 x11 x12 : O) (hg : 0 ≤ g ∧ g < 3) (h0 : 0 ≤ n) (nd : Gd L) (hl : L.length < 1000) :
    SN (sForR I_law_board_7 (gN 5) B_law_board_7 (sB n w b L m x5 x6 x7 x8 x9 x10 x11 x12 (iS g))) (BI w b m 1000) := by
  unfold sForR I_law_board_7
  walk_at "ev"
  rw [lenA_dct]
  walk_at "ev"
  obtain ⟨ln, hn⟩ : ∃ c : Int, c = (L.length : Nat) := ⟨_, rfl⟩
  rw [← hn, min2I]
  walk_at "ev"
  obtain ⟨c, hc⟩ : ∃ c : Int, c = (if ln < g then ln else g) := ⟨_, rfl⟩
  rw [← hc]
  have c1 : c ≤ ln ∧ c < 3 ∧ 0 ≤ c := by
    rw [hc]
    by_cases z : ln < g
    · rw [if_pos z]; omega
    · rw [if_neg z]; omega
  rw [rngI (by omega)]
  walk_at "ev"
  refine SNmono (loop_cnt (Inv := fun j σ => ∃ (n : Int) (M : List Pt) (x5 x6 x7 x8 x9 x10 x11 x12 x13 : O), 0 ≤ n ∧ Gd M ∧ M.length + j = L.length ∧ σ = sB n w b M m x5 x6 x7 x8 x9 x10 x11 x12 x13) 1 (rangeD 0 c) 0 _ ⟨n, L, x5, x6, x7, x8, x9, x10, x11, x12, _, h0, nd, rfl, rfl⟩ ?_) ?_
  · rintro d hd j j1 j2 σ ⟨n, M, x5, x6, x7, x8, x9, x10, x11, x12, x13, h0, h1, h2, rfl⟩
    rw [range_len] at j2
    obtain ⟨q, hq, e⟩ := pop_turn n w b M m (some (.sh d)) x6 x7 x8 x9 x10 x11 x12 x13 h0 h1 (by omega) (by omega)
    refine ⟨_, rfl, _, e, n / (M.length : Nat), M.filter (fun x => decide (x ≠ q)), _, _, _, _, _, _, _, _, _, Int.ediv_nonneg h0 (by omega), h1.flt _, ?_, rfl⟩
    have := filter_ne_len h1.nd hq
    omega
  · rintro σ ⟨n, M, x5, x6, x7, x8, x9, x10, x11, x12, x13, h0, h1, h2, rfl⟩
    exact ⟨n, M, x5, x6, x7, x8, x9, x10, x11, x12, x13, h0, h1, by omega, rfl⟩
def BT : SF := (sSeq (sIf (tB (e2 eqD (eVar 1) (eC (.int 0)))) C_law_board_1 sNil)
  (sSeq (sIf (tB (e2 eqD (eVar 1) (eC (.int 1)))) C_law_board_3 sNil)
  (sSeq (sIf (tB (e2 gtD (eVar 1) (eC (.int 1)))) C_law_board_5 sNil)
  (sSeq (sAsg (gT 2 (gsCons (gN 0) (gsCons (gN 13) gsNil))) (eCall divmodD (aCons (eVar 0) (aCons (eC (.int 3)) aNil))))
  (sSeq (sForR I_law_board_7 (gN 5)
  B_law_board_7)
  T_law_board_1)))))
theorem if_then {w : Int} {b : Pt} {m : Int} {k k2 : Nat} {t : DS → Res Bool} {C : SF} {σ : SS} {c : Bool} (hk : k ≤ k2) (ht : t (view σ) = .ok c) (h : BI w b m k σ) (hC : SN (C σ) (BI w b m k2)) : SN (sIf t C sNil σ) (BI w b m k2) := by
  unfold sIf
  rw [ht]
  cases c with
  | true => exact hC
  | false => exact SN.ok (h.le hk)
theorem tail_ok (w : Int) (b : Pt) (m : Int) (hm : 0 ≤ m ∧ m < 6) (σ : SS) (h : BI w b m 0 σ) : ST (BT σ) (fun d => ∃ (ps : List Pt) (n' : Int), 0 ≤ n' ∧ ps.Pairwise ltP ∧ ps.length ≤ 1000 ∧ (∀ p ∈ ps, H20.inF p) ∧ d = .tuple [tupC ps, .int n']) := by
  have v1 : ∀ {k : Nat} {σ : SS}, BI w b m k σ → eVar 1 (view σ) = .ok (.int w) := by
    rintro k σ ⟨n, L, x5, x6, x7, x8, x9, x10, x11, x12, x13, _, _, _, rfl⟩
    rfl
  unfold BT
  refine SN.thenT (if_then (c := (w == 0)) (by decide) (by unfold E3.tB; rw [E3.e2, v1 h]; rfl) h (way0 w b m hm 0 (by decide) σ h)) fun σ h => ?_
  refine SN.thenT (if_then (c := (w == 1)) (by decide) (by unfold E3.tB; rw [E3.e2, v1 h]; rfl) h (way1 w b m hm 6 (by decide) σ h)) fun σ h => ?_
  refine SN.thenT (if_then (c := decide (1 < w)) (by decide) (by unfold E3.tB; rw [E3.e2, v1 h]; rfl) h (way2 w b m hm 81 (by decide) σ h)) fun σ h => ?_
  obtain ⟨n, L, x5, x6, x7, x8, x9, x10, x11, x12, x13, h0, h1, h2, rfl⟩ := h
  refine SN.thenT (P := fun σ => σ = sB (n / 3) w b L m x5 x6 x7 x8 x9 x10 x11 x12 (iS (n % 3))) ⟨_, by walk_at "ev", rfl⟩ ?_
  rintro σ rfl
  refine SN.thenT (pops w b m (n / 3) (n % 3) L x5 x6 x7 x8 x9 x10 x11 x12 (by omega) (by omega) h1 (by omega)) ?_
  rintro σ ⟨n, L, x5, x6, x7, x8, x9, x10, x11, x12, x13, h0, h1, h2, rfl⟩
  unfold T_law_board_1
  walk_at "ev"
  rw [sort_dct h1.nd]
  walk_at "ev"
  exact ST.ok ⟨srt L, n, h0, pw_srt _, by rw [srt_same h1.nd]; exact h2, fun p hp => h1.bd p (mem_srt.mp hp), rfl⟩
theorem board_okB (n : Int) (hn : 0 ≤ n) : ∃ (ps : List Pt) (n' : Int), 0 ≤ n' ∧ ps.Pairwise ltP ∧ ps.length ≤ 1000 ∧ (∀ p ∈ ps, H20.inF p) ∧ D_law_board [.int n] = .ok (.tuple [tupC ps, .int n']) := by
  obtain ⟨b, n1, h1, e1⟩ := base_ok (n / 5) (by omega)
  obtain ⟨d, σ, e, ps, n', g1, g2, g3, g4, rfl⟩ := tail_ok (n % 5) b (n1 % 6) (by omega) (sB (n1 / 6) (n % 5) b [] (n1 % 6) none none none none none none none none none) ⟨_, [], _, _, _, _, _, _, _, _, _, by omega, Gd.nil, Nat.le_refl _, rfl⟩
  refine ⟨ps, n', g1, g2, g3, g4, ?_⟩
  show endF ((sSeq (sAsg (gT 2 (gsCons (gN 0) (gsCons (gN 1) gsNil))) (eCall divmodD (aCons (eVar 0) (aCons (eC (.int 5)) aNil)))) (sSeq (sAsg (gT 2 (gsCons (gN 2) (gsCons (gN 0) gsNil))) (eCall D_law_base (aCons (eVar 0) aNil))) (sSeq (sNew 3 (eC (.dict []))) (sSeq (sAsg (gT 2 (gsCons (gN 0) (gsCons (gN 4) gsNil))) (eCall divmodD (aCons (eVar 0) (aCons (eC (.int 6)) aNil)))) BT)))) (startF 14 [.int n])) = _
  walk_at "ev"
  rw [e1]
  walk_at "ev"
  rw [show BT [some (.sh (.int (n1 / 6))), some (.sh (.int (n % 5))), some (.sh (cellD b)), some (.ow (.dict [])), some (.sh (.int (n1 % 6))), none, none, none, none, none, none, none, none, none] = _ from e]
theorem board_ok (n : Int) (hn : 0 ≤ n) : ∃ (ps : List Pt) (n' : Int), 0 ≤ n' ∧ ps.Pairwise ltP ∧ ps.length ≤ 1000 ∧ D_law_board [.int n] = .ok (.tuple [tupC ps, .int n']) := by
  obtain ⟨ps, n', h0, h1, h2, _, h3⟩ := board_okB n hn
  exact ⟨ps, n', h0, h1, h2, h3⟩
end
end H70

namespace H70
open PySem PySem.Spec PyProof.Rows L2 E3 
local macro_rules | `(tactic| walk_at "ev") => `(tactic| try simp (disch := first | decide | decide +kernel | omega) only [fnD, xOr, xNot, startF, endF, sSeq, sAsg, sSet, sSetV, sAsgV, sIf, sRet, sNew, sNewV, sMut, sMutV, sFor, sForR, sFreeze, sNil, sExpr, optK, thenR_ok, thenR_exc, thenR_stuck,
  view, mask, E3.eVar_zero, E3.eVar_succ, eC, e1, e2, eCall, eTup, eLst, eSl, oNone, oSome, eAnd, eOr, eIf, E3.tAnd, E3.tOr, E3.tNot, E3.tB, asB, notD, aNil, aCons, Res.bind_ok, Res.bind_exc, Res.bind_stuck,
  gT, gsCons, gsNil, gN, tupD, lstD, Slot.dat, Slot.shd, List.length_cons, List.length_nil, List.map_cons, List.map_nil, List.replicate, List.append_nil, List.cons_append, List.nil_append, Option.map_some, Option.map_none, Option.bind_some, Option.bind_none,
  List.getElem?_cons_zero, List.getElem?_cons_succ, List.set_cons_zero, List.set_cons_succ, Nat.reduceAdd, Nat.reduceSub, Nat.reduceEqDiff, if_true, if_false, ite_true, ite_false, reduceIte, decide_true, decide_false, reduceCtorEq, Bool.not_true, Bool.not_false, Bool.false_eq_true, Bool.true_eq_false, Bool.or_true, Bool.true_or, Bool.false_or, Bool.or_false, Bool.and_true, Bool.and_false, Bool.true_and, Bool.false_and, addI, subI, ltI, leI, gtI, geI, eqI, neI, E3.negI, ix_cell0, ix_cell1, E3.le0, E3.le1, E3.le2, E3.le3, E3.le4, E3.le5, E3.le6, beq_self_eq_true, Int.reduceBEq, E3.divmodI, E3.modI, E3.fdivI, E3.powL, E3.mulLL, E3.isi_bool_none, E3.isi_bool_bool, E3.isi_bool_int, E3.isi_bool_str, E3.isi_bool_list, E3.isi_bool_tuple, E3.isi_int_none, E3.isi_int_bool, E3.isi_int_int, E3.isi_int_str, E3.isi_int_list, E3.isi_int_tuple, E3.isi_str_none, E3.isi_str_bool, E3.isi_str_int, E3.isi_str_str, E3.isi_str_list, E3.isi_str_tuple, E3.isi_list_none, E3.isi_list_bool, E3.isi_list_int, E3.isi_list_str, E3.isi_list_list, E3.isi_list_tuple, E3.isi_tuple_none, E3.isi_tuple_bool, E3.isi_tuple_int, E3.isi_tuple_str, E3.isi_tuple_list, E3.isi_tuple_tuple, E3.isN_none, E3.ntN_none, E3.isN_bool, E3.ntN_bool, E3.isN_int, E3.ntN_int, E3.isN_str, E3.ntN_str, E3.isN_list, E3.ntN_list, E3.isN_tuple, E3.ntN_tuple, E3.len_list, E3.len_tup, E3.seq_list, E3.seq_tup, E3.tup_list, E3.tup_tup, E3.lst_list, E3.lst_tup, xM, xV, xB, xTB, x2, xAnd, xNil, xCons, xTup, xLst, xCall, xSl, xPotd, ownXd, potKd, ePotE, dropKV, fnPd, startPd, endPd, slL, eSlL, xPot, ownX, potK, XR.bind_ok, XR.bind_exc, XR.bind_stuck, XR.of_ok, XR.of_exc, XR.of_stuck, thenX_ok, thenX_exc, thenX_stuck, qSet, qRet, qIf, qAsg, qForR, qFor, H70.fR_i, H70.fR_b, H70.fR_ii, H70.fR_c, fnP, startP, endP, fnL, startL, endL, xPotL, xLast, fnN, endN, E3.ix_lst0, Int.cast_ofNat_Int])
local macro_rules | `(tactic| walk_at "evs") => `(tactic| try simp (disch := first | decide | decide +kernel | omega) only [fnD, xOr, xNot, startF, endF, sSeq, sAsg, sSet, sSetV, sAsgV, sIf, sRet, sNew, sNewV, sMut, sMutV, sFor, sForR, sFreeze, sNil, sExpr, optK, thenR_ok, thenR_exc, thenR_stuck,
  view, mask, E3.eVar_zero, E3.eVar_succ, eC, e1, e2, eCall, eTup, eLst, eSl, oNone, oSome, eAnd, eOr, eIf, E3.tAnd, E3.tOr, E3.tNot, E3.tB, asB, notD, aNil, aCons, Res.bind_ok, Res.bind_exc, Res.bind_stuck,
  gT, gsCons, gsNil, gN, tupD, lstD, Slot.dat, Slot.shd, List.length_cons, List.length_nil, List.map_cons, List.map_nil, List.replicate, List.append_nil, List.cons_append, List.nil_append, Option.map_some, Option.map_none, Option.bind_some, Option.bind_none,
  List.getElem?_cons_zero, List.getElem?_cons_succ, List.set_cons_zero, List.set_cons_succ, Nat.reduceAdd, Nat.reduceSub, Nat.reduceEqDiff, if_true, if_false, ite_true, ite_false, reduceIte, decide_true, decide_false, reduceCtorEq, Bool.not_true, Bool.not_false, Bool.false_eq_true, Bool.true_eq_false, Bool.or_true, Bool.true_or, Bool.false_or, Bool.or_false, Bool.and_true, Bool.and_false, Bool.true_and, Bool.false_and, addI, subI, ltI, leI, gtI, geI, eqI, neI, E3.negI, ix_cell0, ix_cell1, E3.le0, E3.le1, E3.le2, E3.le3, E3.le4, E3.le5, E3.le6, beq_self_eq_true, Int.reduceBEq, E3.divmodI, E3.modI, E3.fdivI, E3.powL, E3.mulLL, E3.isi_bool_none, E3.isi_bool_bool, E3.isi_bool_int, E3.isi_bool_str, E3.isi_bool_list, E3.isi_bool_tuple, E3.isi_int_none, E3.isi_int_bool, E3.isi_int_int, E3.isi_int_str, E3.isi_int_list, E3.isi_int_tuple, E3.isi_str_none, E3.isi_str_bool, E3.isi_str_int, E3.isi_str_str, E3.isi_str_list, E3.isi_str_tuple, E3.isi_list_none, E3.isi_list_bool, E3.isi_list_int, E3.isi_list_str, E3.isi_list_list, E3.isi_list_tuple, E3.isi_tuple_none, E3.isi_tuple_bool, E3.isi_tuple_int, E3.isi_tuple_str, E3.isi_tuple_list, E3.isi_tuple_tuple, E3.isN_none, E3.ntN_none, E3.isN_bool, E3.ntN_bool, E3.isN_int, E3.ntN_int, E3.isN_str, E3.ntN_str, E3.isN_list, E3.ntN_list, E3.isN_tuple, E3.ntN_tuple, E3.len_list, E3.len_tup, E3.seq_list, E3.seq_tup, E3.tup_list, E3.tup_tup, E3.lst_list, E3.lst_tup, xM, xV, xB, xTB, x2, xAnd, xNil, xCons, xTup, xLst, xCall, xSl, xPotd, ownXd, potKd, ePotE, dropKV, fnPd, startPd, endPd, slL, eSlL, xPot, ownX, potK, XR.bind_ok, XR.bind_exc, XR.bind_stuck, XR.of_ok, XR.of_exc, XR.of_stuck, thenX_ok, thenX_exc, thenX_stuck, qSet, qRet, qIf, qAsg, qForR, qFor, H70.fR_i, H70.fR_b, H70.fR_ii, H70.fR_c, fnP, startP, endP, fnL, startL, endL, xPotL, xLast, fnN, endN, E3.ix_lst0, Int.cast_ofNat_Int, *])
noncomputable section
def lawSame2 : Nat → List D → Res D
  | 0 => fnD 4 2 sStuck
  | n + 1 => fnD 4 2 (sSeq (sIf (tB (e2 isND (eVar 1) (eC .none))) (sRet (e2 isND (eVar 0) (eC .none))) sNil)
  (sSeq (sIf (E3.tB (e1 (isiD "bool") (eVar 1))) (sRet (eAnd (e1 (isiD "bool") (eVar 0)) (e2 eqD (eVar 0) (eVar 1)))) sNil)
  (sSeq (sIf (E3.tB (e1 (isiD "int") (eVar 1))) (sRet (eAnd (e1 (isiD "int") (eVar 0)) (eAnd (e1 notD (e1 (isiD "bool") (eVar 0))) (e2 eqD (eVar 0) (eVar 1))))) sNil)
  (sSeq (sIf (E3.tB (e1 (isiD "str") (eVar 1))) (sRet (eAnd (e1 (isiD "str") (eVar 0)) (e2 eqD (eVar 0) (eVar 1)))) sNil)
  (sSeq (sIf (E3.tOr (E3.tAnd (E3.tB (e1 (isiD "tuple") (eVar 1))) (E3.tNot (E3.tB (e1 (isiD "tuple") (eVar 0))))) (E3.tAnd (E3.tB (e1 (isiD "list") (eVar 1))) (E3.tNot (E3.tB (e1 (isiD "list") (eVar 0)))))) (sRet (eC (.bool false))) sNil)
  (sRet (eAnd (e2 eqD (eCall lenD (aCons (eVar 0) aNil)) (eCall lenD (aCons (eVar 1) aNil))) (eCall allD (aCons (eLc (fun σ => ((aCons (eVar 0) (aCons (eVar 1) aNil)) σ).bind zipR) (gT 2 (gsCons (gN 2) (gsCons (gN 3) gsNil))) [2, 3] tYesD (eCall (lawSame2 n) (aCons (eVar 2) (aCons (eVar 3) aNil)))) aNil)))))))))
theorem same2_lc (n : Nat) (xs : List D) (σ : DS) (hs : σ.length = 4) (h0 : ∀ x ∈ xs, lawSame2 n [x, x] = .ok (.bool true)) :
    lcD (gT 2 (gsCons (gN 2) (gsCons (gN 3) gsNil))) tYesD (eCall (lawSame2 n) (aCons (eVar 2) (aCons (eVar 3) aNil))) (wipeD σ [2, 3]) (xs.map fun d => .tuple [d, d]) = .ok (xs.map fun _ => PyData.bool true) := by
  match σ, hs with
  | [a, b, c, d], _ =>
    refine lc_of (g := fun d => PyData.tuple [d, d]) (q := fun _ => PyData.bool true) xs fun x hx => ⟨_, rfl, rfl, ?_⟩
    show (eCall (lawSame2 n) (aCons (eVar 2) (aCons (eVar 3) aNil))) [_, _, some x, some x] = _
    exact h0 x hx
theorem same2_refl : ∀ (n : Nat) (d : D), good n d → lawSame2 (n + 1) [d, d] = .ok (.bool true) := by
  have base : ∀ (n : Nat) (d : D), (d = .none ∨ (∃ b, d = .bool b) ∨ (∃ i, d = .int i) ∨ ∃ x, d = .str x ∧ SeqAt.shaped (.str x) = true) → lawSame2 (n + 1) [d, d] = .ok (.bool true) := by
    intro n d h
    rcases h with rfl | ⟨b, rfl⟩ | ⟨i, rfl⟩ | ⟨x, rfl, h⟩
    · unfold lawSame2; walk_at "ev"
    · have e := eqD_refl (d := .bool b) (by cases b <;> rfl)
      unfold lawSame2; walk_at "ev"; rw [e]; walk_at "ev"
    · unfold lawSame2; walk_at "ev"
    · have e := eqD_refl (d := .str x) h
      unfold lawSame2; walk_at "ev"; rw [e]; walk_at "ev"
  have seq : ∀ (n : Nat) (xs : List D), xs.length ≤ sizeLine → (∀ x ∈ xs, lawSame2 (n + 1) [x, x] = .ok (.bool true)) → lawSame2 (n + 2) [.tuple xs, .tuple xs] = .ok (.bool true) ∧ lawSame2 (n + 2) [.list xs, .list xs] = .ok (.bool true) := by
    intro n xs hl hx
    constructor
    · have e := same2_lc (n + 1) xs [some (.tuple xs), some (.tuple xs), none, none] rfl hx
      rw [lawSame2]
      generalize lawSame2 (n + 1) = R at *
      walk_at "ev"
      simp only [zipR_tt, zipR_ll, zip_self, eLc, Res.bind_ok, List.length_map, if_pos hl, e]
      walk_at "ev"
      simp only [zipR_tt, zipR_ll, zip_self, Res.bind_ok, List.length_map, if_pos hl, e]
      walk_at "ev"
      rw [all_tr]
      walk_at "ev"
    · have e := same2_lc (n + 1) xs [some (.list xs), some (.list xs), none, none] rfl hx
      rw [lawSame2]
      generalize lawSame2 (n + 1) = R at *
      walk_at "ev"
      simp only [zipR_tt, zipR_ll, zip_self, eLc, Res.bind_ok, List.length_map, if_pos hl, e]
      walk_at "ev"
      simp only [zipR_tt, zipR_ll, zip_self, Res.bind_ok, List.length_map, if_pos hl, e]
      walk_at "ev"
      rw [all_tr]
      walk_at "ev"
  intro n
  induction n with
  | zero =>
    intro d h
    cases d with
    | none => exact base _ _ (.inl rfl)
    | bool b => exact base _ _ (.inr (.inl ⟨b, rfl⟩))
    | int i => exact base _ _ (.inr (.inr (.inl ⟨i, rfl⟩)))
    | str x => exact base _ _ (.inr (.inr (.inr ⟨x, rfl, h⟩)))
    | _ => exact h.elim
  | succ n ih =>
    intro d h
    cases d with
    | none => exact base _ _ (.inl rfl)
    | bool b => exact base _ _ (.inr (.inl ⟨b, rfl⟩))
    | int i => exact base _ _ (.inr (.inr (.inl ⟨i, rfl⟩)))
    | str x => exact base _ _ (.inr (.inr (.inr ⟨x, rfl, h⟩)))
    | tuple xs => exact (seq n xs h.1 fun x hx => ih x (h.2 x hx)).1
    | list xs => exact (seq n xs h.1 fun x hx => ih x (h.2 x hx)).2
    | _ => exact h.elim
theorem good_cell (n : Nat) (p : Pt) : good (n + 1) (cellD p) := by
  refine ⟨by show (2 : Nat) ≤ sizeLine; decide, fun x hx => ?_⟩
  have : x = .int p.1 ∨ x = .int p.2 := by simpa using hx
  rcases this with rfl | rfl <;> (cases n <;> trivial)
theorem good_tupC (n : Nat) {ps : List Pt} (h : ps.length ≤ 900000) : good (n + 2) (tupC ps) := by
  refine ⟨by rw [List.length_map, sizeLine_eq]; omega, fun x hx => ?_⟩
  obtain ⟨p, _, rfl⟩ := List.mem_map.mp hx
  exact good_cell n p
theorem good_parts (n : Nat) {gs : List (List Pt)} (h : gs.length ≤ 900000) (h2 : ∀ g ∈ gs, g.length ≤ 900000) : good (n + 3) (.list (gs.map tupC)) := by
  refine ⟨by rw [List.length_map, sizeLine_eq]; omega, fun x hx => ?_⟩
  obtain ⟨p, hp, rfl⟩ := List.mem_map.mp hx
  exact good_tupC n (h2 p hp)
end
end H70

namespace H70
open PySem PySem.Spec PyProof.Rows L2 E3 
local macro_rules | `(tactic| walk_at "ev") => `(tactic| try simp (disch := first | decide | decide +kernel | omega) only [fnD, xOr, xNot, startF, endF, sSeq, sAsg, sSet, sSetV, sAsgV, sIf, sRet, sNew, sNewV, sMut, sMutV, sFor, sForR, sFreeze, sNil, sExpr, optK, thenR_ok, thenR_exc, thenR_stuck,
  view, mask, E3.eVar_zero, E3.eVar_succ, eC, e1, e2, eCall, eTup, eLst, eSl, oNone, oSome, eAnd, eOr, eIf, E3.tAnd, E3.tOr, E3.tNot, E3.tB, asB, notD, aNil, aCons, Res.bind_ok, Res.bind_exc, Res.bind_stuck,
  gT, gsCons, gsNil, gN, tupD, lstD, Slot.dat, Slot.shd, List.length_cons, List.length_nil, List.map_cons, List.map_nil, List.replicate, List.append_nil, List.cons_append, List.nil_append, Option.map_some, Option.map_none, Option.bind_some, Option.bind_none,
  List.getElem?_cons_zero, List.getElem?_cons_succ, List.set_cons_zero, List.set_cons_succ, Nat.reduceAdd, Nat.reduceSub, Nat.reduceEqDiff, if_true, if_false, ite_true, ite_false, reduceIte, decide_true, decide_false, reduceCtorEq, Bool.not_true, Bool.not_false, Bool.false_eq_true, Bool.true_eq_false, Bool.or_true, Bool.true_or, Bool.false_or, Bool.or_false, Bool.and_true, Bool.and_false, Bool.true_and, Bool.false_and, addI, subI, ltI, leI, gtI, geI, eqI, neI, E3.negI, ix_cell0, ix_cell1, E3.le0, E3.le1, E3.le2, E3.le3, E3.le4, E3.le5, E3.le6, beq_self_eq_true, Int.reduceBEq, E3.divmodI, E3.modI, E3.fdivI, E3.powL, E3.mulLL, E3.isi_bool_none, E3.isi_bool_bool, E3.isi_bool_int, E3.isi_bool_str, E3.isi_bool_list, E3.isi_bool_tuple, E3.isi_int_none, E3.isi_int_bool, E3.isi_int_int, E3.isi_int_str, E3.isi_int_list, E3.isi_int_tuple, E3.isi_str_none, E3.isi_str_bool, E3.isi_str_int, E3.isi_str_str, E3.isi_str_list, E3.isi_str_tuple, E3.isi_list_none, E3.isi_list_bool, E3.isi_list_int, E3.isi_list_str, E3.isi_list_list, E3.isi_list_tuple, E3.isi_tuple_none, E3.isi_tuple_bool, E3.isi_tuple_int, E3.isi_tuple_str, E3.isi_tuple_list, E3.isi_tuple_tuple, E3.isN_none, E3.ntN_none, E3.isN_bool, E3.ntN_bool, E3.isN_int, E3.ntN_int, E3.isN_str, E3.ntN_str, E3.isN_list, E3.ntN_list, E3.isN_tuple, E3.ntN_tuple, E3.len_list, E3.len_tup, E3.seq_list, E3.seq_tup, E3.tup_list, E3.tup_tup, E3.lst_list, E3.lst_tup, xM, xV, xB, xTB, x2, xAnd, xNil, xCons, xTup, xLst, xCall, xSl, xPotd, ownXd, potKd, ePotE, dropKV, fnPd, startPd, endPd, slL, eSlL, xPot, ownX, potK, XR.bind_ok, XR.bind_exc, XR.bind_stuck, XR.of_ok, XR.of_exc, XR.of_stuck, thenX_ok, thenX_exc, thenX_stuck, qSet, qRet, qIf, qAsg, qForR, qFor, H70.fR_i, H70.fR_b, H70.fR_ii, H70.fR_c, fnP, startP, endP, fnL, startL, endL, xPotL, xLast, fnN, endN, E3.ix_lst0, Int.cast_ofNat_Int])
local macro_rules | `(tactic| walk_at "evs") => `(tactic| try simp (disch := first | decide | decide +kernel | omega) only [fnD, xOr, xNot, startF, endF, sSeq, sAsg, sSet, sSetV, sAsgV, sIf, sRet, sNew, sNewV, sMut, sMutV, sFor, sForR, sFreeze, sNil, sExpr, optK, thenR_ok, thenR_exc, thenR_stuck,
  view, mask, E3.eVar_zero, E3.eVar_succ, eC, e1, e2, eCall, eTup, eLst, eSl, oNone, oSome, eAnd, eOr, eIf, E3.tAnd, E3.tOr, E3.tNot, E3.tB, asB, notD, aNil, aCons, Res.bind_ok, Res.bind_exc, Res.bind_stuck,
  gT, gsCons, gsNil, gN, tupD, lstD, Slot.dat, Slot.shd, List.length_cons, List.length_nil, List.map_cons, List.map_nil, List.replicate, List.append_nil, List.cons_append, List.nil_append, Option.map_some, Option.map_none, Option.bind_some, Option.bind_none,
  List.getElem?_cons_zero, List.getElem?_cons_succ, List.set_cons_zero, List.set_cons_succ, Nat.reduceAdd, Nat.reduceSub, Nat.reduceEqDiff, if_true, if_false, ite_true, ite_false, reduceIte, decide_true, decide_false, reduceCtorEq, Bool.not_true, Bool.not_false, Bool.false_eq_true, Bool.true_eq_false, Bool.or_true, Bool.true_or, Bool.false_or, Bool.or_false, Bool.and_true, Bool.and_false, Bool.true_and, Bool.false_and, addI, subI, ltI, leI, gtI, geI, eqI, neI, E3.negI, ix_cell0, ix_cell1, E3.le0, E3.le1, E3.le2, E3.le3, E3.le4, E3.le5, E3.le6, beq_self_eq_true, Int.reduceBEq, E3.divmodI, E3.modI, E3.fdivI, E3.powL, E3.mulLL, E3.isi_bool_none, E3.isi_bool_bool, E3.isi_bool_int, E3.isi_bool_str, E3.isi_bool_list, E3.isi_bool_tuple, E3.isi_int_none, E3.isi_int_bool, E3.isi_int_int, E3.isi_int_str, E3.isi_int_list, E3.isi_int_tuple, E3.isi_str_none, E3.isi_str_bool, E3.isi_str_int, E3.isi_str_str, E3.isi_str_list, E3.isi_str_tuple, E3.isi_list_none, E3.isi_list_bool, E3.isi_list_int, E3.isi_list_str, E3.isi_list_list, E3.isi_list_tuple, E3.isi_tuple_none, E3.isi_tuple_bool, E3.isi_tuple_int, E3.isi_tuple_str, E3.isi_tuple_list, E3.isi_tuple_tuple, E3.isN_none, E3.ntN_none, E3.isN_bool, E3.ntN_bool, E3.isN_int, E3.ntN_int, E3.isN_str, E3.ntN_str, E3.isN_list, E3.ntN_list, E3.isN_tuple, E3.ntN_tuple, E3.len_list, E3.len_tup, E3.seq_list, E3.seq_tup, E3.tup_list, E3.tup_tup, E3.lst_list, E3.lst_tup, xM, xV, xB, xTB, x2, xAnd, xNil, xCons, xTup, xLst, xCall, xSl, xPotd, ownXd, potKd, ePotE, dropKV, fnPd, startPd, endPd, slL, eSlL, xPot, ownX, potK, XR.bind_ok, XR.bind_exc, XR.bind_stuck, XR.of_ok, XR.of_exc, XR.of_stuck, thenX_ok, thenX_exc, thenX_stuck, qSet, qRet, qIf, qAsg, qForR, qFor, H70.fR_i, H70.fR_b, H70.fR_ii, H70.fR_c, fnP, startP, endP, fnL, startL, endL, xPotL, xLast, fnN, endN, E3.ix_lst0, Int.cast_ofNat_Int, *])
noncomputable section
def D_near_cells : List D → Res D := fnD 3 2 (sRet (eLc (fun σ => ((eVar 1) σ).bind seqOf) (gN 2) [2] tYesD (eTup (aCons (e2 addD (e2 ixD (eVar 0) (eC (.int 0))) (e2 ixD (eVar 2) (eC (.int 0)))) (aCons (e2 addD (e2 ixD (eVar 0) (eC (.int 1))) (e2 ixD (eVar 2) (eC (.int 1)))) aNil)))))
def IE : DS → Res D := eLc (fun σ => ((eCall D_near_cells (aCons (eVar 2) (aCons (eC wt_AROUND) aNil))) σ).bind seqOf) (gN 6) [6] (tB (e2 neD (e2 inG (eVar 6) (eVar 0)) (eVar 1))) (eVar 6)
def LE : DS → Res D := eLc (fun σ => ((eCall D_near_cells (aCons (eVar 2) (aCons (eC wt_SIDES) aNil))) σ).bind seqOf) (gN 6) [6] (tB (e2 eqD (e2 inG (eVar 6) (eVar 0)) (eVar 1))) (eVar 6)
def C_why_around_1 : SF := (sRet (eTup (aCons (eC (.str "bridge")) (aCons (eCall tupleD (aCons (eCall sortedD (aCons (eVar 5) aNil)) aNil)) aNil))))
def D_why_around : List D → Res D := fnD 7 3 (sSeq (sSet 3 IE)
  (sSeq (sIf (tB (e2 eqD (eVar 3) (eLst aNil))) (sRet (eTup (aCons (eC (.str "alone")) aNil))) sNil)
  (sSeq (sSet 4 LE)
  (sSeq (sIf (tB (e2 eqD (eVar 4) (eLst aNil))) (sRet (eTup (aCons (eC (.str "inner")) aNil))) sNil)
  (sSeq (sSet 5 (ePotE D_flooded (eCall D_noted (aCons (eVar 3) aNil)) (aCons (e2 ixD (eVar 3) (eC (.int 0))) (aCons (eC wt_AROUND) aNil))))
  (sSeq (sIf (tB (e2 ltD (eCall lenD (aCons (eVar 5) aNil)) (eCall lenD (aCons (eVar 3) aNil)))) C_why_around_1 sNil)
  (sRet (eTup (aCons (eC (.str "loose")) (aCons (eVar 5) (aCons (e2 ixD (eVar 4) (eC (.int 0))) aNil)))))))))))
def D_law_has : List D → Res D := fnD 2 2 (sRet (e2 neD (e2 inG (eVar 1) (e2 ixD (eVar 0) (eC (.int 0)))) (e2 ixD (eVar 0) (eC (.int 1)))))
def C_law_around_1 : SF := (sMut 2 appendM (aCons (eTup (aCons (eVar 3) (aCons (eVar 4) aNil))) aNil))
def I_law_around_1 : DS → Res (List D) := (fun σ => ((aCons (e2 subD (e2 ixD (eVar 1) (eC (.int 1))) (eC (.int 1))) (aCons (e2 addD (e2 ixD (eVar 1) (eC (.int 1))) (eC (.int 2))) aNil)) σ).bind rng2)
def B_law_around_1 : SF := (sIf (E3.tAnd (tB (e2 neD (eTup (aCons (eVar 3) (aCons (eVar 4) aNil))) (eVar 1))) (E3.tB (eCall D_law_has (aCons (eVar 0) (aCons (eTup (aCons (eVar 3) (aCons (eVar 4) aNil))) aNil))))) C_law_around_1 sNil)
def I_law_around_2 : DS → Res (List D) := (fun σ => ((aCons (e2 subD (e2 ixD (eVar 1) (eC (.int 0))) (eC (.int 1))) (aCons (e2 addD (e2 ixD (eVar 1) (eC (.int 0))) (eC (.int 2))) aNil)) σ).bind rng2)
def B_law_around_2 : SF := (sFor I_law_around_1 (gN 4)
  B_law_around_1)
def D_law_around : List D → Res D := fnD 5 2 (sSeq (sNew 2 (eLst aNil))
  (sSeq (sFor I_law_around_2 (gN 3)
  B_law_around_2)
  (sFreeze 2 (sRet (eVar 2)))))
def WE : DS → Res D := eLc (fun σ => ((eVar 2) σ).bind seqOf) (gN 3) [3] (E3.tOr (tB (e2 eqD (e2 ixD (eVar 3) (eC (.int 0))) (e2 ixD (eVar 1) (eC (.int 0))))) (tB (e2 eqD (e2 ixD (eVar 3) (eC (.int 1))) (e2 ixD (eVar 1) (eC (.int 1)))))) (eVar 3)
def D_law_word_due : List D → Res D := fnD 4 2 (sSeq (sSet 2 (eCall D_law_around (aCons (eVar 0) (aCons (eVar 1) aNil))))
  (sSeq (sIf (tB (e2 eqD (eVar 2) (eLst aNil))) (sRet (eC (.str "alone"))) sNil)
  (sSeq (sIf (tB (e2 eqD (eCall lenD (aCons WE aNil)) (eC (.int 4)))) (sRet (eC (.str "inner"))) sNil)
  (sSeq (sIf (tB (e2 gtD (eCall lenD (aCons (eCall (D_law_fallen sortedD) (aCons (eVar 2) (aCons (eC (.bool false)) aNil))) aNil)) (eC (.int 1)))) (sRet (eC (.str "bridge"))) sNil)
  (sRet (eC (.str "loose")))))))
def hs (ps : List Pt) (b : Bool) (p : Pt) : Bool := !(decide (p ∈ ps) == b)
def nearL (c : Pt) (steps : List Pt) : List Pt := steps.map (plusC c)
def insL (ps : List Pt) (b : Bool) (c : Pt) : List Pt := (nearL c aroundL).filter (hs ps b)
def lacS (ps : List Pt) (b : Bool) (c : Pt) : List Pt := (nearL c sidesL).filter fun p => !hs ps b p
theorem near_ok {steps : List Pt} {stD : D} (hst : seqOf stD = .ok (steps.map wt2)) (hs : steps.length < 1000) (c : Pt) : D_near_cells [cellD c, stD] = .ok (.list ((nearL c steps).map cellD)) := by
  have lc : eLc (fun σ => (eVar 1 σ).bind seqOf) (gN 2) [2] tYesD (eTup (aCons (e2 addD (e2 ixD (eVar 0) (eC (.int 0))) (e2 ixD (eVar 2) (eC (.int 0)))) (aCons (e2 addD (e2 ixD (eVar 0) (eC (.int 1))) (e2 ixD (eVar 2) (eC (.int 1)))) aNil))) [some (cellD c), some stD, none] = .ok (.list (steps.map fun st => cellD (plusC c st))) := by
    unfold eLc
    show (((eVar 1 [some (cellD c), some stD, none]).bind seqOf).bind _) = _
    rw [show eVar 1 [some (cellD c), some stD, none] = .ok stD from rfl, Res.bind_ok, hst, Res.bind_ok, if_pos (by rw [List.length_map, sizeLine_eq]; omega)]
    rw [lc_of (g := wt2) (q := fun st => cellD (plusC c st)) steps fun st _ => ⟨_, rfl, rfl, rfl⟩]
    rfl
  unfold D_near_cells
  walk_at "ev"
  rw [lc]
  walk_at "ev"
  unfold nearL
  rw [List.map_map]
  rfl
theorem neB2 (x y : Bool) : neD (.bool x) (.bool y) = .ok (.bool (!(x == y))) := by cases x <;> cases y <;> rfl
theorem eqB2 (x y : Bool) : eqD (.bool x) (.bool y) = .ok (.bool (x == y)) := by cases x <;> cases y <;> rfl
theorem ins_lc (ps : List Pt) (b : Bool) (c : Pt) (x3 x4 x5 x6 : Option D) : IE [some (.dict (dctT ps)), some (.bool b), some (cellD c), x3, x4, x5, x6] = .ok (.list ((insL ps b c).map cellD)) := by
  have hn := near_ok seq_around (by decide) c
  refine lcCT (t := hs ps b) (g := cellD) (nearL c aroundL) ?_ (by unfold nearL; rw [List.length_map]; decide) (fun p _ => ?_) (fun p _ _ => rfl) (by show 6 < 7; decide)
  · generalize D_near_cells = N at *
    show ((N [cellD c, wt_AROUND]).bind seqOf) = _
    rw [hn]
    rfl
  · show (((inG (cellD p) (.dict (dctT ps))).bind fun x => neD x (.bool b)).bind asB) = _
    rw [in_dct, Res.bind_ok, neB2]
    rfl
theorem lac_lc (ps : List Pt) (b : Bool) (c : Pt) (x3 x4 x5 x6 : Option D) : LE [some (.dict (dctT ps)), some (.bool b), some (cellD c), x3, x4, x5, x6] = .ok (.list ((lacS ps b c).map cellD)) := by
  have hn := near_ok seq_sides (by decide) c
  refine lcCT (t := fun p => !hs ps b p) (g := cellD) (nearL c sidesL) ?_ (by unfold nearL; rw [List.length_map]; decide) (fun p _ => ?_) (fun p _ _ => rfl) (by show 6 < 7; decide)
  · generalize D_near_cells = N at *
    show ((N [cellD c, wt_SIDES]).bind seqOf) = _
    rw [hn]
    rfl
  · show (((inG (cellD p) (.dict (dctT ps))).bind fun x => eqD x (.bool b)).bind asB) = _
    rw [in_dct, Res.bind_ok, eqB2]
    show Res.ok _ = Res.ok _
    unfold hs
    rw [Bool.not_not]
theorem near_pw (c : Pt) : (nearL c aroundL).Pairwise ltP := by
  refine List.pairwise_map.mpr ((show aroundL.Pairwise ltP by decide).imp fun {a b} h => ?_)
  rcases h with h | ⟨h1, h2⟩
  · exact .inl (by show c.1 + a.1 < c.1 + b.1; omega)
  · exact .inr ⟨by show c.1 + a.1 = c.1 + b.1; omega, by show c.2 + a.2 < c.2 + b.2; omega⟩
theorem ins_pw (ps : List Pt) (b : Bool) (c : Pt) : (insL ps b c).Pairwise ltP := (near_pw c).filter _
theorem ins_len (ps : List Pt) (b : Bool) (c : Pt) : (insL ps b c).length ≤ 8 := Nat.le_trans (List.length_filter_le _ _) (by unfold nearL; rw [List.length_map]; decide)
def whyD (ps : List Pt) (b : Bool) (c : Pt) : D := match insL ps b c with
  | [] => .tuple [.str "alone"]
  | p :: r => match lacS ps b c with
    | [] => .tuple [.str "inner"]
    | q :: _ => if (flood aroundL (p :: r) p).2.length < (p :: r).length then .tuple [.str "bridge", tupC (srt (flood aroundL (p :: r) p).2)] else .tuple [.str "loose", .list ((flood aroundL (p :: r) p).2.map cellD), cellD q]
theorem lt_len (a b : Nat) : ltD (.int (a : Nat)) (.int (b : Nat)) = .ok (.bool (decide (a < b))) := by
  show Res.ok (PyData.bool (decide ((a : Int) < b))) = _
  exact congrArg (fun t => Res.ok (PyData.bool t)) (decide_eq_decide.mpr (by omega))
theorem why_ok (ps : List Pt) (b : Bool) (c : Pt) : D_why_around [.dict (dctT ps), .bool b, cellD c] = .ok (whyD ps b c) := by
  have i1 := ins_lc ps b c none none none none
  have ilen := ins_len ps b c
  have ipw := ins_pw ps b c
  have i2 := lac_lc ps b c (some (.list ((insL ps b c).map cellD))) none none none
  unfold whyD
  generalize hI : insL ps b c = I at *
  generalize hK : lacS ps b c = K at *
  have eI := eq_lists I []
  have eK := eq_lists K []
  have lI : lenD [.list (I.map cellD)] = .ok (.int (I.length : Nat)) := by rw [E3.len_list, List.length_map]
  cases I with
  | nil =>
    unfold D_why_around
    walk_at "ev"
    rw [i1]
    walk_at "ev"
    rw [show (PyData.list []) = .list (([] : List Pt).map cellD) from rfl, eI]
    walk_at "ev"
  | cons p r =>
    rw [decide_eq_false (by simp)] at eI
    have x0 : ixD (.list ((p :: r).map cellD)) (.int 0) = .ok (cellD p) := E3.ix_lst0 (cellD p) (r.map cellD)
    have nd := pw_nodup ipw
    have fo := flooded_ok (stD := wt_AROUND) seq_around (by decide) nd (by omega) (c := p) List.mem_cons_self
    obtain ⟨f1, f2⟩ := flood_ok (steps := aroundL) nd (c := p) List.mem_cons_self
    have hfl := f1.len
    have no := noted_ok (d := .list ((p :: r).map cellD)) rfl nd (by omega)
    have so := sort_cells f1.n2 (by omega)
    have lF : lenD [.list ((flood aroundL (p :: r) p).2.map cellD)] = .ok (.int ((flood aroundL (p :: r) p).2.length : Nat)) := by rw [E3.len_list, List.length_map]
    have lt := lt_len (flood aroundL (p :: r) p).2.length (p :: r).length
    cases K with
    | nil =>
      unfold D_why_around
      generalize (p :: r).map cellD = Im at *
      walk_at "ev"
      rw [i1]
      walk_at "ev"
      rw [show (PyData.list []) = .list (([] : List Pt).map cellD) from rfl, eI]
      walk_at "ev"
      rw [i2]
      walk_at "ev"
      rw [show (PyData.list []) = .list (([] : List Pt).map cellD) from rfl, eK]
      walk_at "ev"
    | cons q s =>
      rw [decide_eq_false (by simp)] at eK
      have lm : ((p :: r).map cellD).length = (p :: r).length := List.length_map ..
      have x1 : ixD (.list ((q :: s).map cellD)) (.int 0) = .ok (cellD q) := E3.ix_lst0 (cellD q) (s.map cellD)
      unfold D_why_around
      generalize (p :: r).map cellD = Im at *
      generalize (q :: s).map cellD = Km at *
      generalize dctT (p :: r) = dI at *
      walk_at "ev"
      rw [i1]
      walk_at "ev"
      rw [show (PyData.list []) = .list (([] : List Pt).map cellD) from rfl, eI]
      walk_at "ev"
      rw [i2]
      walk_at "ev"
      rw [show (PyData.list []) = .list (([] : List Pt).map cellD) from rfl, eK]
      walk_at "ev"
      rw [no]
      walk_at "ev"
      rw [x0]
      walk_at "ev"
      rw [fo]
      walk_at "ev"
      generalize hF : (flood aroundL (p :: r) p).2 = F at *
      by_cases z : F.length < (p :: r).length
      · rw [decide_eq_true (show ((F.map cellD).length : Int) < Im.length by rw [List.length_map, lm]; omega)]
        unfold C_why_around_1
        walk_at "ev"
        rw [so]
        walk_at "ev"
        exact congrArg Res.ok (if_pos z).symm
      · rw [decide_eq_false (show ¬ ((F.map cellD).length : Int) < Im.length by rw [List.length_map, lm]; omega)]
        walk_at "ev"
        rw [x1]
        walk_at "ev"
        exact congrArg Res.ok (if_neg z).symm
theorem has_ok (ps : List Pt) (b : Bool) (p : Pt) : D_law_has [shp ps b, cellD p] = .ok (.bool (hs ps b p)) := by
  have i0 : ixD (shp ps b) (.int 0) = .ok (tupC ps) := rfl
  have i1 : ixD (shp ps b) (.int 1) = .ok (.bool b) := rfl
  have hi := in_cells p ps
  unfold D_law_has
  generalize shp ps b = S at *
  walk_at "ev"
  rw [i0]
  walk_at "ev"
  rw [show inG (cellD p) (tupC ps) = _ from hi, i1]
  walk_at "ev"
  rw [neB2]
  rfl
def isN (ps : List Pt) (b : Bool) (c p : Pt) : Bool := !decide (p = c) && hs ps b p
abbrev s5a (S : D) (c : Pt) (acc : List Pt) (x3 x4 : Option Slot) : SS := [some (.sh S), some (.sh (cellD c)), some (.ow (.list (acc.map cellD))), x3, x4]
theorem ar_turn (ps : List Pt) (b : Bool) (c : Pt) (acc : List Pt) (r q : Int) (hl : acc.length < 100000) :
    B_law_around_1 (s5a (shp ps b) c acc (some (.sh (.int r))) (some (.sh (.int q)))) = .ok .nx (s5a (shp ps b) c (acc ++ [(r, q)].filter (isN ps b c)) (some (.sh (.int r))) (some (.sh (.int q)))) := by
  have h1 := has_ok ps b (r, q)
  have h2 := ne_cell (r, q) c
  unfold B_law_around_1 isN
  generalize D_law_has = Ha at *
  generalize shp ps b = S at *
  walk_at "ev"
  rw [show (PyData.tuple [.int r, .int q]) = cellD (r, q) from rfl, h2]
  walk_at "ev"
  by_cases e : (r, q) = c
  · rw [decide_eq_true e]
    walk_at "ev"
    simp [e]
  · rw [decide_eq_false e]
    walk_at "ev"
    rw [h1]
    walk_at "ev"
    cases z : hs ps b (r, q) with
    | false => simp [e, z]
    | true =>
      unfold C_law_around_1
      walk_at "ev"
      simp only [sMut, ownL, List.getElem?_cons_succ, List.getElem?_cons_zero]
      walk_at "ev"
      rw [show (PyData.tuple [.int r, .int q]) = cellD (r, q) from rfl, app_cells (by omega)]
      simp [e, z, mutK]
theorem ar_row (ps : List Pt) (b : Bool) (c : Pt) (acc : List Pt) (r : Int) (x4 : Option Slot) (hl : acc.length < 90000) (hI : I_law_around_1 [some (shp ps b), some (cellD c), none, some (.int r), x4.bind Slot.shd] = .ok [.int (c.2 - 1), .int c.2, .int (c.2 + 1)]) :
    ∃ y4, B_law_around_2 (s5a (shp ps b) c acc (some (.sh (.int r))) x4) = .ok .nx (s5a (shp ps b) c (acc ++ [(r, c.2 - 1), (r, c.2), (r, c.2 + 1)].filter (isN ps b c)) (some (.sh (.int r))) y4) := by
  have len1 : ∀ (a : List Pt) (p : Pt), (a ++ [p].filter (isN ps b c)).length ≤ a.length + 1 := fun a p => by
    rw [List.length_append]
    have := List.length_filter_le (isN ps b c) [p]
    simp at this ⊢
    exact this
  have e : [(r, c.2 - 1), (r, c.2), (r, c.2 + 1)].filter (isN ps b c) = [(r, c.2 - 1)].filter (isN ps b c) ++ ([(r, c.2)].filter (isN ps b c) ++ [(r, c.2 + 1)].filter (isN ps b c)) := by
    rw [← List.filter_append, ← List.filter_append]; rfl
  have l1 := len1 acc (r, c.2 - 1)
  have l2 := len1 (acc ++ [(r, c.2 - 1)].filter (isN ps b c)) (r, c.2)
  refine ⟨some (.sh (.int (c.2 + 1))), ?_⟩
  unfold B_law_around_2 sFor
  rw [show mask (s5a (shp ps b) c acc (some (.sh (.int r))) x4) = [some (shp ps b), some (cellD c), none, some (.int r), x4.bind Slot.shd] from rfl, hI, thenR_ok]
  rw [forS_cons (σ1 := s5a (shp ps b) c acc (some (.sh (.int r))) (some (.sh (.int (c.2 - 1))))) rfl (ar_turn ps b c acc r (c.2 - 1) (by omega))]
  rw [forS_cons (σ1 := s5a (shp ps b) c _ (some (.sh (.int r))) (some (.sh (.int c.2)))) rfl (ar_turn ps b c _ r c.2 (by omega))]
  rw [forS_cons (σ1 := s5a (shp ps b) c _ (some (.sh (.int r))) (some (.sh (.int (c.2 + 1))))) rfl (ar_turn ps b c _ r (c.2 + 1) (by omega))]
  rw [e, ← List.append_assoc, ← List.append_assoc]
  rfl
theorem three (a : Int) (h : -(10 ^ 15) < a ∧ a < 10 ^ 15) : rng2 [.int (a - 1), .int (a + 2)] = .ok [.int (a - 1), .int a, .int (a + 1)] := by
  have e : rng2 [.int (a - 1), .int (a + 2)] = .ok (rangeD (a - 1) (a + 2)) := if_pos (by omega)
  rw [e]
  unfold rangeD
  rw [show (a + 2 - (a - 1)).toNat = 3 by omega]
  show Res.ok [PyData.int (a - 1 + (0 : Nat)), PyData.int (a - 1 + (1 : Nat)), PyData.int (a - 1 + (2 : Nat))] = _
  rw [show a - 1 + ((0 : Nat) : Int) = a - 1 by omega, show a - 1 + ((1 : Nat) : Int) = a by omega, show a - 1 + ((2 : Nat) : Int) = a + 1 by omega]
def Mid (c : Pt) : Prop := (-(10 ^ 15) < c.1 ∧ c.1 < 10 ^ 15) ∧ (-(10 ^ 15) < c.2 ∧ c.2 < 10 ^ 15)
theorem nine_near (ps : List Pt) (b : Bool) (c : Pt) : [(c.1 - 1, c.2 - 1), (c.1 - 1, c.2), (c.1 - 1, c.2 + 1), (c.1, c.2 - 1), (c.1, c.2), (c.1, c.2 + 1), (c.1 + 1, c.2 - 1), (c.1 + 1, c.2), (c.1 + 1, c.2 + 1)].filter (isN ps b c) = insL ps b c := by
  have n8 : nearL c aroundL = [(c.1 - 1, c.2 - 1), (c.1 - 1, c.2), (c.1 - 1, c.2 + 1), (c.1, c.2 - 1), (c.1, c.2 + 1), (c.1 + 1, c.2 - 1), (c.1 + 1, c.2), (c.1 + 1, c.2 + 1)] := by
    show [plusC c (-1, -1), plusC c (-1, 0), plusC c (-1, 1), plusC c (0, -1), plusC c (0, 1), plusC c (1, -1), plusC c (1, 0), plusC c (1, 1)] = _
    unfold plusC
    simp only [Int.add_zero, ← Int.sub_eq_add_neg]
  have self : isN ps b c (c.1, c.2) = false := by unfold isN; simp
  have oth : ∀ p : Pt, p ≠ c → isN ps b c p = hs ps b p := fun p h => by unfold isN; rw [decide_eq_false h]; rfl
  unfold insL
  rw [n8]
  have f1 : ∀ (r q : Int), r ≠ c.1 → (r, q) ≠ c := fun r q h e => h (by rw [← e])
  have f2 : ∀ (r q : Int), q ≠ c.2 → (r, q) ≠ c := fun r q h e => h (by rw [← e])
  simp only [List.filter_cons, List.filter_nil, self, oth _ (f1 (c.1 - 1) (c.2 - 1) (by omega)), oth _ (f1 (c.1 - 1) c.2 (by omega)), oth _ (f1 (c.1 - 1) (c.2 + 1) (by omega)), oth _ (f2 c.1 (c.2 - 1) (by omega)), oth _ (f2 c.1 (c.2 + 1) (by omega)), oth _ (f1 (c.1 + 1) (c.2 - 1) (by omega)), oth _ (f1 (c.1 + 1) c.2 (by omega)), oth _ (f1 (c.1 + 1) (c.2 + 1) (by omega)), Bool.false_eq_true, if_false]
theorem around_ok (ps : List Pt) (b : Bool) (c : Pt) (hc : Mid c) : D_law_around [shp ps b, cellD c] = .ok (.list ((insL ps b c).map cellD)) := by
  have t1 := three c.1 hc.1
  have t2 := three c.2 hc.2
  have hI : ∀ (r : Int) (x : Option D), I_law_around_1 [some (shp ps b), some (cellD c), none, some (.int r), x] = .ok [.int (c.2 - 1), .int c.2, .int (c.2 + 1)] := fun r x => by
    unfold I_law_around_1
    generalize shp ps b = S
    walk_at "ev"
    exact t2
  have lf : ∀ (a l : List Pt), (a ++ l.filter (isN ps b c)).length ≤ a.length + l.length := fun a l => by
    rw [List.length_append]
    have := List.length_filter_le (isN ps b c) l
    omega
  obtain ⟨y1, e1⟩ := ar_row ps b c [] (c.1 - 1) none (by decide) (hI _ _)
  obtain ⟨y2, f2⟩ := ar_row ps b c ([] ++ [(c.1 - 1, c.2 - 1), (c.1 - 1, c.2), (c.1 - 1, c.2 + 1)].filter (isN ps b c)) c.1 y1 (by have := lf [] [(c.1 - 1, c.2 - 1), (c.1 - 1, c.2), (c.1 - 1, c.2 + 1)]; simp only [List.length_cons, List.length_nil] at this; omega) (hI _ _)
  obtain ⟨y3, f3⟩ := ar_row ps b c ([] ++ [(c.1 - 1, c.2 - 1), (c.1 - 1, c.2), (c.1 - 1, c.2 + 1)].filter (isN ps b c) ++ [(c.1, c.2 - 1), (c.1, c.2), (c.1, c.2 + 1)].filter (isN ps b c)) (c.1 + 1) y2 (by
    have h1 := lf [] [(c.1 - 1, c.2 - 1), (c.1 - 1, c.2), (c.1 - 1, c.2 + 1)]
    have h2 := lf ([] ++ [(c.1 - 1, c.2 - 1), (c.1 - 1, c.2), (c.1 - 1, c.2 + 1)].filter (isN ps b c)) [(c.1, c.2 - 1), (c.1, c.2), (c.1, c.2 + 1)]
    simp only [List.length_cons, List.length_nil] at h1 h2; omega) (hI _ _)
  have all : [] ++ [(c.1 - 1, c.2 - 1), (c.1 - 1, c.2), (c.1 - 1, c.2 + 1)].filter (isN ps b c) ++ [(c.1, c.2 - 1), (c.1, c.2), (c.1, c.2 + 1)].filter (isN ps b c) ++ [(c.1 + 1, c.2 - 1), (c.1 + 1, c.2), (c.1 + 1, c.2 + 1)].filter (isN ps b c) = insL ps b c := by
    rw [← nine_near, List.nil_append, ← List.filter_append, ← List.filter_append]
    rfl
  rw [all] at f3
  unfold D_law_around I_law_around_2
  generalize hS : shp ps b = S at *
  walk_at "ev"
  rw [t1]
  walk_at "ev"
  rw [show (PyData.list []) = .list (([] : List Pt).map cellD) from rfl]
  rw [forS_cons (σ1 := s5a S c [] (some (.sh (.int (c.1 - 1)))) none) rfl e1, forS_cons (σ1 := s5a S c _ (some (.sh (.int c.1))) y1) rfl f2, forS_cons (σ1 := s5a S c _ (some (.sh (.int (c.1 + 1)))) y2) rfl f3]
  walk_at "ev"
  rfl
def sideP (c p : Pt) : Bool := (p.1 == c.1) || (p.2 == c.2)
theorem we_lc (I : List Pt) (c : Pt) (hl : I.length ≤ 10000) (x0 x3 : Option D) : WE [x0, some (cellD c), some (.list (I.map cellD)), x3] = .ok (.list ((I.filter (sideP c)).map cellD)) := by
  refine lcCT (t := sideP c) (g := cellD) I rfl hl (fun p _ => ?_) (fun p _ _ => rfl) (by show 3 < 4; decide)
  show (E3.tOr (tB (e2 eqD (e2 ixD (eVar 3) (eC (.int 0))) (e2 ixD (eVar 1) (eC (.int 0))))) (tB (e2 eqD (e2 ixD (eVar 3) (eC (.int 1))) (e2 ixD (eVar 1) (eC (.int 1)))))) [x0, some (cellD c), some (.list (I.map cellD)), some (cellD p)] = _
  generalize some (PyData.list (I.map cellD)) = Q
  unfold sideP
  walk_at "ev"
  cases p.1 == c.1 <;> rfl
theorem len_split (f : Pt → Bool) : ∀ l : List Pt, (l.filter f).length + (l.filter fun x => !f x).length = l.length
  | [] => rfl
  | a :: l => by
    have ih := len_split f l
    rw [List.filter_cons, List.filter_cons]
    cases h : f a <;> simp [h] <;> omega
theorem side_near (c : Pt) : (nearL c aroundL).filter (sideP c) = nearL c sidesL := by
  show [plusC c (-1, -1), plusC c (-1, 0), plusC c (-1, 1), plusC c (0, -1), plusC c (0, 1), plusC c (1, -1), plusC c (1, 0), plusC c (1, 1)].filter (sideP c) = [plusC c (-1, 0), plusC c (0, -1), plusC c (0, 1), plusC c (1, 0)]
  have no : ∀ a b : Int, a ≠ 0 → b ≠ 0 → sideP c (plusC c (a, b)) = false := fun a b ha hb => by
    unfold sideP plusC
    rw [Bool.or_eq_false_iff]
    exact ⟨beq_eq_false_iff_ne.mpr (by show c.1 + a ≠ c.1; omega), beq_eq_false_iff_ne.mpr (by show c.2 + b ≠ c.2; omega)⟩
  have y1 : ∀ b : Int, sideP c (plusC c (0, b)) = true := fun b => by unfold sideP plusC; simp
  have y2 : ∀ a : Int, sideP c (plusC c (a, 0)) = true := fun a => by unfold sideP plusC; simp
  simp only [List.filter_cons, List.filter_nil, no (-1) (-1) (by decide) (by decide), no (-1) 1 (by decide) (by decide), no 1 (-1) (by decide) (by decide), no 1 1 (by decide) (by decide), y1, y2, if_true, Bool.false_eq_true, if_false]
theorem inner_iff (ps : List Pt) (b : Bool) (c : Pt) : ((insL ps b c).filter (sideP c)).length = 4 ↔ lacS ps b c = [] := by
  have e : (insL ps b c).filter (sideP c) = (nearL c sidesL).filter (hs ps b) := by
    unfold insL
    rw [← side_near, List.filter_filter, List.filter_filter]
    exact List.filter_congr fun x _ => Bool.and_comm _ _
  have l := len_split (hs ps b) (nearL c sidesL)
  have l4 : (nearL c sidesL).length = 4 := rfl
  rw [e]
  unfold lacS
  constructor
  · intro h
    exact List.eq_nil_of_length_eq_zero (by omega)
  · intro h
    rw [h] at l
    simpa using l.trans l4
theorem regs_nil (steps : List Pt) : ∀ (cs : List Pt) (acc : List (List Pt)), regs steps cs [] acc = acc
  | [], _ => rfl
  | c :: cs, acc => by rw [regs, if_neg (by simp)]; exact regs_nil steps cs acc
theorem regs_ge (steps : List Pt) : ∀ (cs L : List Pt) (acc : List (List Pt)), acc.length ≤ (regs steps cs L acc).length
  | [], _, _ => Nat.le_refl _
  | c :: cs, L, acc => by
    rw [regs]
    split
    · have := regs_ge steps cs (flood steps L c).1 (acc ++ [srt (flood steps L c).2])
      rw [List.length_append, List.length_singleton] at this
      omega
    · exact regs_ge steps cs L acc
theorem regs_gt (steps : List Pt) : ∀ (cs L : List Pt) (acc : List (List Pt)), (∃ x ∈ cs, x ∈ L) → acc.length < (regs steps cs L acc).length
  | [], _, _, h => by obtain ⟨x, hx, _⟩ := h; cases hx
  | c :: cs, L, acc, h => by
    rw [regs]
    split
    · have := regs_ge steps cs (flood steps L c).1 (acc ++ [srt (flood steps L c).2])
      rw [List.length_append, List.length_singleton] at this
      omega
    · rename_i e
      obtain ⟨x, hx, hL⟩ := h
      rcases List.mem_cons.mp hx with rfl | hx
      · exact absurd hL e
      · exact regs_gt steps cs L acc ⟨x, hx, hL⟩
theorem bridge_iff (steps : List Pt) (p : Pt) (r : List Pt) (nd : (p :: r).Nodup) : 1 < (regs steps (p :: r) (p :: r) []).length ↔ (flood steps (p :: r) p).2.length < (p :: r).length := by
  obtain ⟨f1, f2⟩ := flood_ok (steps := steps) nd (c := p) List.mem_cons_self
  have hfl := f1.len
  rw [regs, if_pos List.mem_cons_self, List.nil_append]
  constructor
  · intro h
    cases q : (flood steps (p :: r) p).1 with
    | nil =>
      rw [q, regs_nil] at h
      exact absurd h (Nat.lt_irrefl 1)
    | cons x l =>
      rw [q] at hfl
      rw [List.length_cons] at hfl
      omega
  · intro h
    have ne : (flood steps (p :: r) p).1 ≠ [] := fun z => by
      rw [z] at hfl
      simp at hfl h
      omega
    obtain ⟨x, l, q⟩ := List.exists_cons_of_ne_nil ne
    have hx : x ∈ (flood steps (p :: r) p).1 := by rw [q]; exact List.mem_cons_self
    have hp : p ∈ (flood steps (p :: r) p).2 := (f2 p).mpr (.here List.mem_cons_self)
    have hxr : x ∈ r := ((List.mem_cons.mp ((f1.all x).mpr (.inl hx))).resolve_left fun z => f1.dis x hx (z ▸ hp))
    exact regs_gt steps r _ [srt (flood steps (p :: r) p).2] ⟨x, hxr, hx⟩
def isL (ps : List Pt) (b : Bool) (c : Pt) : Bool := match insL ps b c with
  | [] => false
  | p :: r => match lacS ps b c with
    | [] => false
    | _ :: _ => !decide ((flood aroundL (p :: r) p).2.length < (p :: r).length)
theorem eqs {x y : D} {b : Bool} (h1 : (SeqAt.shaped x && SeqAt.shaped y) = true) (h2 : PyData.eqv x y = b) : eqD x y = .ok (.bool b) := by
  subst h2
  unfold eqD
  rw [if_pos h1]
theorem eqs1 : eqD (.str "alone") (.str "loose") = .ok (.bool false) := eqs (by decide +kernel) (by decide +kernel)
theorem eqs2 : eqD (.str "inner") (.str "loose") = .ok (.bool false) := eqs (by decide +kernel) (by decide +kernel)
theorem eqs3 : eqD (.str "bridge") (.str "loose") = .ok (.bool false) := eqs (by decide +kernel) (by decide +kernel)
theorem eqs4 : eqD (.str "loose") (.str "loose") = .ok (.bool true) := eqs (by decide +kernel) (by decide +kernel)
theorem why_is (ps : List Pt) (b : Bool) (c : Pt) : ∃ w, ixD (whyD ps b c) (.int 0) = .ok (.str w) ∧ eqD (.str w) (.str "loose") = .ok (.bool (isL ps b c)) := by
  unfold whyD isL
  cases insL ps b c with
  | nil => exact ⟨_, rfl, eqs1⟩
  | cons p r =>
    cases lacS ps b c with
    | nil => exact ⟨_, rfl, eqs2⟩
    | cons q s =>
      by_cases z : (flood aroundL (p :: r) p).2.length < (p :: r).length
      · refine ⟨"bridge", ?_, ?_⟩
        · simp only [if_pos z]
          exact ix_tup0 _ _
        · simp only [decide_eq_true z]
          exact eqs3
      · refine ⟨"loose", ?_, ?_⟩
        · simp only [if_neg z]
          exact ix_tup0 _ _
        · simp only [decide_eq_false z]
          exact eqs4
theorem word_ok (ps : List Pt) (b : Bool) (c : Pt) (hc : Mid c) : ∃ w, D_law_word_due [shp ps b, cellD c] = .ok (.str w) ∧ eqD (.str w) (.str "loose") = .ok (.bool (isL ps b c)) := by
  have ar := around_ok ps b c hc
  have ilen := ins_len ps b c
  have ipw := ins_pw ps b c
  have inn := inner_iff ps b c
  have we := we_lc (insL ps b c) c (by omega) (some (shp ps b)) none
  unfold isL
  generalize hI : insL ps b c = I at *
  generalize hK : lacS ps b c = K at *
  have eI := eq_lists I []
  have lS : lenD [.list ((I.filter (sideP c)).map cellD)] = .ok (.int ((I.filter (sideP c)).length : Nat)) := by rw [E3.len_list, List.length_map]
  obtain ⟨sn, hsn⟩ : ∃ sn : Int, sn = ((I.filter (sideP c)).length : Nat) := ⟨_, rfl⟩
  rw [← hsn] at lS
  cases I with
  | nil =>
    refine ⟨"alone", ?_, eqs1⟩
    unfold D_law_word_due
    generalize D_law_around = Ar at *
    generalize shp ps b = S at *
    walk_at "ev"
    rw [ar]
    walk_at "ev"
    rw [show (PyData.list []) = .list (([] : List Pt).map cellD) from rfl, eI]
    walk_at "ev"
  | cons p r =>
    rw [decide_eq_false (by simp)] at eI
    have nd := pw_nodup ipw
    have fo := fallen_ok sortedD false (ps := p :: r) (d := .list ((p :: r).map cellD)) rfl (by rw [sort_cells nd (by omega), srt_id ipw]) nd (by omega)
    rw [show stepsOf false = aroundL from rfl] at fo
    have br := bridge_iff aroundL p r nd
    have lR : lenD [.list ((regs aroundL (p :: r) (p :: r) []).map tupC)] = .ok (.int ((regs aroundL (p :: r) (p :: r) []).length : Nat)) := by rw [E3.len_list, List.length_map]
    obtain ⟨rn, hrn⟩ : ∃ rn : Int, rn = ((regs aroundL (p :: r) (p :: r) []).length : Nat) := ⟨_, rfl⟩
    rw [← hrn] at lR
    have main : D_law_word_due [shp ps b, cellD c] = .ok (if sn == 4 then .str "inner" else if decide (1 < rn) = true then .str "bridge" else .str "loose") := by
      unfold D_law_word_due
      generalize D_law_around = Ar at *
      generalize D_law_fallen sortedD = Fa at *
      generalize shp ps b = S at *
      generalize (p :: r).map cellD = Im at *
      generalize (List.filter (sideP c) (p :: r)).map cellD = Sm at *
      generalize (regs aroundL (p :: r) (p :: r) []).map tupC = Rm at *
      walk_at "ev"
      rw [ar]
      walk_at "ev"
      rw [show (PyData.list []) = .list (([] : List Pt).map cellD) from rfl, eI]
      walk_at "ev"
      rw [we]
      simp only [Res.bind_ok]
      rw [lS]
      walk_at "ev"
      cases sn == 4 with
      | true => walk_at "ev"
      | false =>
        walk_at "ev"
        rw [fo]
        simp only [Res.bind_ok]
        rw [lR]
        walk_at "ev"
        cases decide (1 < rn) with
        | true => walk_at "ev"
        | false => walk_at "ev"
    cases K with
    | nil =>
      have h4 := inn.mpr rfl
      refine ⟨"inner", ?_, eqs2⟩
      rw [main, if_pos (by rw [hsn, h4]; rfl)]
    | cons q s =>
      have h4 : ¬ (List.filter (sideP c) (p :: r)).length = 4 := fun z => by have := inn.mp z; cases this
      rw [if_neg (show ¬ (sn == 4) = true by rw [beq_iff_eq, hsn]; omega)] at main
      by_cases z : (flood aroundL (p :: r) p).2.length < (p :: r).length
      · refine ⟨"bridge", ?_, ?_⟩
        · rw [main, if_pos (decide_eq_true (by rw [hrn]; have := br.mpr z; omega))]
        · simp only [decide_eq_true z]
          exact eqs3
      · refine ⟨"loose", ?_, ?_⟩
        · rw [main, if_neg (by rw [decide_eq_true_iff, hrn]; intro y; exact z (br.mp (by omega)))]
        · simp only [decide_eq_false z]
          exact eqs4
end
end H70

namespace K73
open PySem PySem.Spec PyProof.Rows L2 E3 
local macro_rules | `(tactic| walk_at "ev") => `(tactic| try simp (disch := first | decide | decide +kernel | omega) only [fnD, xOr, xNot, startF, endF, sSeq, sAsg, sSet, sSetV, sAsgV, sIf, sRet, sNew, sNewV, sMut, sMutV, sFor, sForR, sFreeze, sNil, sExpr, optK, thenR_ok, thenR_exc, thenR_stuck,
  view, mask, E3.eVar_zero, E3.eVar_succ, eC, e1, e2, eCall, eTup, eLst, eSl, oNone, oSome, eAnd, eOr, eIf, E3.tAnd, E3.tOr, E3.tNot, E3.tB, asB, notD, aNil, aCons, Res.bind_ok, Res.bind_exc, Res.bind_stuck,
  gT, gsCons, gsNil, gN, tupD, lstD, Slot.dat, Slot.shd, List.length_cons, List.length_nil, List.map_cons, List.map_nil, List.replicate, List.append_nil, List.cons_append, List.nil_append, Option.map_some, Option.map_none, Option.bind_some, Option.bind_none,
  List.getElem?_cons_zero, List.getElem?_cons_succ, List.set_cons_zero, List.set_cons_succ, Nat.reduceAdd, Nat.reduceSub, Nat.reduceEqDiff, if_true, if_false, ite_true, ite_false, reduceIte, decide_true, decide_false, reduceCtorEq, Bool.not_true, Bool.not_false, Bool.false_eq_true, Bool.true_eq_false, Bool.or_true, Bool.true_or, Bool.false_or, Bool.or_false, Bool.and_true, Bool.and_false, Bool.true_and, Bool.false_and, addI, subI, ltI, leI, gtI, geI, eqI, neI, E3.negI, ix_cell0, ix_cell1, E3.le0, E3.le1, E3.le2, E3.le3, E3.le4, E3.le5, E3.le6, beq_self_eq_true, Int.reduceBEq, E3.divmodI, E3.modI, E3.fdivI, E3.powL, E3.mulLL, E3.isi_bool_none, E3.isi_bool_bool, E3.isi_bool_int, E3.isi_bool_str, E3.isi_bool_list, E3.isi_bool_tuple, E3.isi_int_none, E3.isi_int_bool, E3.isi_int_int, E3.isi_int_str, E3.isi_int_list, E3.isi_int_tuple, E3.isi_str_none, E3.isi_str_bool, E3.isi_str_int, E3.isi_str_str, E3.isi_str_list, E3.isi_str_tuple, E3.isi_list_none, E3.isi_list_bool, E3.isi_list_int, E3.isi_list_str, E3.isi_list_list, E3.isi_list_tuple, E3.isi_tuple_none, E3.isi_tuple_bool, E3.isi_tuple_int, E3.isi_tuple_str, E3.isi_tuple_list, E3.isi_tuple_tuple, E3.isN_none, E3.ntN_none, E3.isN_bool, E3.ntN_bool, E3.isN_int, E3.ntN_int, E3.isN_str, E3.ntN_str, E3.isN_list, E3.ntN_list, E3.isN_tuple, E3.ntN_tuple, E3.len_list, E3.len_tup, E3.seq_list, E3.seq_tup, E3.tup_list, E3.tup_tup, E3.lst_list, E3.lst_tup, xM, xV, xB, xTB, x2, xAnd, xNil, xCons, xTup, xLst, xCall, xSl, xPotd, ownXd, potKd, ePotE, dropKV, fnPd, startPd, endPd, slL, eSlL, xPot, ownX, potK, XR.bind_ok, XR.bind_exc, XR.bind_stuck, XR.of_ok, XR.of_exc, XR.of_stuck, thenX_ok, thenX_exc, thenX_stuck, qSet, qRet, qIf, qAsg, qForR, qFor, H70.fR_i, H70.fR_b, H70.fR_ii, H70.fR_c, fnP, startP, endP, fnL, startL, endL, xPotL, xLast, fnN, endN, E3.ix_lst0, Int.cast_ofNat_Int])
local macro_rules | `(tactic| walk_at "evs") => `(tactic| try simp (disch := first | decide | decide +kernel | omega) only [fnD, xOr, xNot, startF, endF, sSeq, sAsg, sSet, sSetV, sAsgV, sIf, sRet, sNew, sNewV, sMut, sMutV, sFor, sForR, sFreeze, sNil, sExpr, optK, thenR_ok, thenR_exc, thenR_stuck,
  view, mask, E3.eVar_zero, E3.eVar_succ, eC, e1, e2, eCall, eTup, eLst, eSl, oNone, oSome, eAnd, eOr, eIf, E3.tAnd, E3.tOr, E3.tNot, E3.tB, asB, notD, aNil, aCons, Res.bind_ok, Res.bind_exc, Res.bind_stuck,
  gT, gsCons, gsNil, gN, tupD, lstD, Slot.dat, Slot.shd, List.length_cons, List.length_nil, List.map_cons, List.map_nil, List.replicate, List.append_nil, List.cons_append, List.nil_append, Option.map_some, Option.map_none, Option.bind_some, Option.bind_none,
  List.getElem?_cons_zero, List.getElem?_cons_succ, List.set_cons_zero, List.set_cons_succ, Nat.reduceAdd, Nat.reduceSub, Nat.reduceEqDiff, if_true, if_false, ite_true, ite_false, reduceIte, decide_true, decide_false, reduceCtorEq, Bool.not_true, Bool.not_false, Bool.false_eq_true, Bool.true_eq_false, Bool.or_true, Bool.true_or, Bool.false_or, Bool.or_false, Bool.and_true, Bool.and_false, Bool.true_and, Bool.false_and, addI, subI, ltI, leI, gtI, geI, eqI, neI, E3.negI, ix_cell0, ix_cell1, E3.le0, E3.le1, E3.le2, E3.le3, E3.le4, E3.le5, E3.le6, beq_self_eq_true, Int.reduceBEq, E3.divmodI, E3.modI, E3.fdivI, E3.powL, E3.mulLL, E3.isi_bool_none, E3.isi_bool_bool, E3.isi_bool_int, E3.isi_bool_str, E3.isi_bool_list, E3.isi_bool_tuple, E3.isi_int_none, E3.isi_int_bool, E3.isi_int_int, E3.isi_int_str, E3.isi_int_list, E3.isi_int_tuple, E3.isi_str_none, E3.isi_str_bool, E3.isi_str_int, E3.isi_str_str, E3.isi_str_list, E3.isi_str_tuple, E3.isi_list_none, E3.isi_list_bool, E3.isi_list_int, E3.isi_list_str, E3.isi_list_list, E3.isi_list_tuple, E3.isi_tuple_none, E3.isi_tuple_bool, E3.isi_tuple_int, E3.isi_tuple_str, E3.isi_tuple_list, E3.isi_tuple_tuple, E3.isN_none, E3.ntN_none, E3.isN_bool, E3.ntN_bool, E3.isN_int, E3.ntN_int, E3.isN_str, E3.ntN_str, E3.isN_list, E3.ntN_list, E3.isN_tuple, E3.ntN_tuple, E3.len_list, E3.len_tup, E3.seq_list, E3.seq_tup, E3.tup_list, E3.tup_tup, E3.lst_list, E3.lst_tup, xM, xV, xB, xTB, x2, xAnd, xNil, xCons, xTup, xLst, xCall, xSl, xPotd, ownXd, potKd, ePotE, dropKV, fnPd, startPd, endPd, slL, eSlL, xPot, ownX, potK, XR.bind_ok, XR.bind_exc, XR.bind_stuck, XR.of_ok, XR.of_exc, XR.of_stuck, thenX_ok, thenX_exc, thenX_stuck, qSet, qRet, qIf, qAsg, qForR, qFor, H70.fR_i, H70.fR_b, H70.fR_ii, H70.fR_c, fnP, startP, endP, fnL, startL, endL, xPotL, xLast, fnN, endN, E3.ix_lst0, Int.cast_ofNat_Int, *])
noncomputable section
open H70
theorem noted_q : D_noted = H70.D_noted := rfl
theorem why_q : D_why_around = H70.D_why_around := rfl
theorem fallen_q : D_law_fallen = H70.D_law_fallen sortedD := rfl
theorem has_q : D_law_has = H70.D_law_has := rfl
theorem around_q : D_law_around = H70.D_law_around := rfl
theorem word_q : D_law_word_due = H70.D_law_word_due := rfl
theorem board_q : D_law_board = H70.D_law_board := rfl
theorem kept_q : D_law_kept = H20.D_law_kept := rfl
theorem base_q : D_law_base = H20.D_law_base := rfl
theorem deal_q : D_law_deal = lawDeal2 := rfl
theorem finite_ok (ps : List Pt) : D_look_finite [shp ps false] = .ok .none := rfl
structure Sh (ps : List Pt) : Prop where
  pw : ps.Pairwise ltP
  len : ps.length ≤ 5000
theorem loose_ok {ps : List Pt} (h : Sh ps) (b : Bool) (c : Pt) (hc : hs ps b c = true) : D_is_loose [shp ps b, cellD c] = .ok (.bool (isL ps b c)) := by
  have i0 : ixD (shp ps b) (.int 0) = .ok (tupC ps) := rfl
  have i1 : ixD (shp ps b) (.int 1) = .ok (.bool b) := rfl
  have no : D_noted [tupC ps] = .ok (.dict (dctT ps)) := by rw [noted_q]; exact noted_ok (d := tupC ps) rfl (pw_nodup h.pw) (by have := h.len; omega)
  have wo : D_why_around [.dict (dctT ps), .bool b, cellD c] = .ok (whyD ps b c) := by rw [why_q]; exact why_ok ps b c
  obtain ⟨w, w1, w2⟩ := why_is ps b c
  have inn := in_dct c ps
  have e : eqD (.bool (decide (c ∈ ps))) (.bool b) = .ok (.bool false) := by
    rw [eqB2]
    unfold hs at hc
    cases z : (decide (c ∈ ps) == b) with
    | true => rw [z] at hc; cases hc
    | false => rfl
  have wl : D_why_loose [shp ps b, cellD c] = .ok (whyD ps b c) := by
    unfold D_why_loose
    generalize D_noted = N at *
    generalize D_why_around = W at *
    generalize shp ps b = S at *
    generalize dctT ps = dd at *
    generalize whyD ps b c = wd at *
    walk_at "ev"
    rw [i0]
    walk_at "ev"
    rw [no]
    walk_at "ev"
    rw [inn, i1]
    walk_at "ev"
    rw [e]
    walk_at "ev"
    rw [i1]
    walk_at "ev"
    rw [wo]
    walk_at "ev"
  unfold D_is_loose
  generalize D_why_loose = W at *
  generalize shp ps b = S at *
  generalize whyD ps b c = wd at *
  walk_at "ev"
  rw [wl]
  walk_at "ev"
  rw [w1]
  walk_at "ev"
  rw [w2]
  walk_at "ev"
theorem come_ok {ps : List Pt} (h : Sh ps) (b : Bool) (c : Pt) (hc : hs ps b c = false) : D_may_come [shp ps b, cellD c] = .ok (.bool (isL ps b c)) := by
  have i0 : ixD (shp ps b) (.int 0) = .ok (tupC ps) := rfl
  have i1 : ixD (shp ps b) (.int 1) = .ok (.bool b) := rfl
  have no : D_noted [tupC ps] = .ok (.dict (dctT ps)) := by rw [noted_q]; exact noted_ok (d := tupC ps) rfl (pw_nodup h.pw) (by have := h.len; omega)
  have wo : D_why_around [.dict (dctT ps), .bool b, cellD c] = .ok (whyD ps b c) := by rw [why_q]; exact why_ok ps b c
  obtain ⟨w, w1, w2⟩ := why_is ps b c
  have inn := in_dct c ps
  have e : neD (.bool (decide (c ∈ ps))) (.bool b) = .ok (.bool false) := by
    rw [neB2]
    unfold hs at hc
    rw [hc]
  unfold D_may_come
  generalize D_noted = N at *
  generalize D_why_around = W at *
  generalize shp ps b = S at *
  generalize dctT ps = dd at *
  generalize whyD ps b c = wd at *
  walk_at "ev"
  rw [i0]
  walk_at "ev"
  rw [no]
  walk_at "ev"
  rw [inn, i1]
  walk_at "ev"
  rw [e]
  walk_at "ev"
  rw [i1]
  walk_at "ev"
  rw [wo]
  walk_at "ev"
  rw [w1]
  walk_at "ev"
  rw [w2]
  walk_at "ev"
theorem asked_ok {ps : List Pt} (h : Sh ps) (b : Bool) (c : Pt) (hc : Mid c) : D_law_asked [shp ps b, cellD c] = .ok (.bool true) := by
  have hh : D_law_has [shp ps b, cellD c] = .ok (.bool (hs ps b c)) := by rw [has_q]; exact has_ok ps b c
  obtain ⟨w, w1, w2⟩ := word_ok ps b c hc
  rw [← word_q] at w1
  have e := eqB2 (isL ps b c) (isL ps b c)
  rw [beq_self_eq_true] at e
  cases z : hs ps b c with
  | true =>
    have l := loose_ok h b c z
    rw [z] at hh
    unfold D_law_asked C_law_asked_1
    generalize D_law_has = Ha at *
    generalize D_is_loose = Is at *
    generalize D_law_word_due = Wd at *
    generalize shp ps b = S at *
    generalize isL ps b c = t at *
    walk_at "ev"
    rw [hh]
    walk_at "ev"
    rw [l]
    walk_at "ev"
    rw [w1]
    walk_at "ev"
    rw [w2]
    walk_at "ev"
    rw [e]
    walk_at "ev"
  | false =>
    have l := come_ok h b c z
    rw [z] at hh
    unfold D_law_asked C_law_asked_2
    generalize D_law_has = Ha at *
    generalize D_may_come = Is at *
    generalize D_law_word_due = Wd at *
    generalize shp ps b = S at *
    generalize isL ps b c = t at *
    walk_at "ev"
    rw [hh]
    walk_at "ev"
    rw [l]
    walk_at "ev"
    rw [w1]
    walk_at "ev"
    rw [w2]
    walk_at "ev"
    rw [e]
    walk_at "ev"
def LCE : DS → Res D := eLc (fun σ => ((e2 ixD (eVar 0) (eC (.int 0))) σ).bind seqOf) (gN 2) [2] (tB (e2 eqD (e2 ixD (eCall D_why_around (aCons (eVar 1) (aCons (eC (.bool false)) (aCons (eVar 2) aNil)))) (eC (.int 0))) (eC (.str "loose")))) (eVar 2)
theorem lcs_q : D_loose_cells = fnN 3 1 (sSeq (sExpr (eCall D_look_finite (aCons (eVar 0) aNil))) (sSeq (qSet 1 (xM (eCall D_noted (aCons (e2 ixD (eVar 0) (eC (.int 0))) aNil)))) (qRet (xM LCE)))) := rfl
theorem lcs_ok {ps : List Pt} (h : Sh ps) : D_loose_cells [shp ps false] = .ok (.list ((ps.filter (isL ps false)).map cellD)) := by
  have hl := h.len
  have i0 : ixD (shp ps false) (.int 0) = .ok (tupC ps) := rfl
  have no : D_noted [tupC ps] = .ok (.dict (dctT ps)) := by rw [noted_q]; exact noted_ok (d := tupC ps) rfl (pw_nodup h.pw) (by omega)
  have fi := finite_ok ps
  have lc : LCE [some (shp ps false), some (.dict (dctT ps)), none] = .ok (.list ((ps.filter (isL ps false)).map cellD)) := by
    refine lcCT (t := isL ps false) (g := cellD) ps (by show ((ixD (shp ps false) (.int 0)).bind seqOf) = _; rw [i0]; rfl) (by omega) (fun p _ => ?_) (fun p _ _ => rfl) (by show 2 < 3; decide)
    have wo : D_why_around [.dict (dctT ps), .bool false, cellD p] = .ok (whyD ps false p) := by rw [why_q]; exact why_ok ps false p
    obtain ⟨w, w1, w2⟩ := why_is ps false p
    show (tB (e2 eqD (e2 ixD (eCall D_why_around (aCons (eVar 1) (aCons (eC (.bool false)) (aCons (eVar 2) aNil)))) (eC (.int 0))) (eC (.str "loose")))) [some (shp ps false), some (.dict (dctT ps)), some (cellD p)] = _
    generalize D_why_around = W at *
    generalize some (shp ps false) = S at *
    generalize dctT ps = dd at *
    generalize whyD ps false p = wd at *
    walk_at "ev"
    rw [wo]
    walk_at "ev"
    rw [w1]
    walk_at "ev"
    rw [w2]
    walk_at "ev"
  rw [lcs_q]
  generalize D_look_finite = LF at *
  generalize D_noted = N at *
  generalize shp ps false = S at *
  generalize dctT ps = dd at *
  walk_at "ev"
  rw [fi]
  walk_at "ev"
  rw [i0]
  walk_at "ev"
  rw [no]
  walk_at "ev"
  rw [lc]
  walk_at "ev"
theorem mid_of {p : Pt} (h : H20.inF p) : Mid p := by
  obtain ⟨⟨a, b⟩, c, d⟩ := h
  exact ⟨⟨by omega, by omega⟩, ⟨by omega, by omega⟩⟩
theorem mid_kp (r c : Int) : Mid (H20.kp r, H20.kp c) := mid_of (H20.inF_kp r c)
theorem kp_ok (r c : Int) : D_law_kept [.int r, .int c] = .ok (cellD (H20.kp r, H20.kp c)) := by rw [kept_q]; exact H20.kept_ok r c
def rangeI0 (n : Int) : List Int := (List.range n.toNat).map fun (i : Nat) => (0 : Int) + i
theorem rangeD_I0 (n : Int) : rangeD 0 n = (rangeI0 n).map .int := by unfold rangeD rangeI0; rw [List.map_map, Int.sub_zero]; rfl
abbrev O := Option E3.Slot
theorem there_turn {ps : List Pt} (h : Sh ps) (b : Bool) (x0 x1 x2 x3 x5 x7 x8 : O) (q : Pt) : B_law_1 [x0, x1, x2, x3, some (.sh (shp ps b)), x5, some (.sh (cellD q)), x7, x8] = .ok .nx [x0, x1, x2, x3, some (.sh (shp ps b)), x5, some (.sh (cellD q)), x7, x8] := by
  have k := kp_ok q.1 q.2
  have a := asked_ok h b _ (mid_kp q.1 q.2)
  unfold B_law_1
  generalize D_law_asked = As at *
  generalize D_law_kept = Ke at *
  generalize shp ps b = S at *
  walk_at "ev"
  rw [k]
  walk_at "ev"
  rw [a]
  walk_at "ev"
theorem spot_turn {ps : List Pt} (h : Sh ps) (b : Bool) (x0 x1 x2 x3 x6 x7 x8 : O) (p : Pt) : ∃ y6, B_law_2 [x0, x1, x2, x3, some (.sh (shp ps b)), some (.sh (cellD p)), x6, x7, x8] = .ok .nx [x0, x1, x2, x3, some (.sh (shp ps b)), some (.sh (cellD p)), y6, x7, x8] := by
  refine ⟨some (.sh (cellD (p.1 + 1, p.2 + 1))), ?_⟩
  have t := there_turn h b x0 x1 x2 x3 (some (.sh (cellD p))) x7 x8
  unfold B_law_2 I_law_1
  generalize shp ps b = S at *
  walk_at "ev"
  show forS (gN 6) B_law_1 [cellD p, cellD (p.1, p.2 - 1), cellD (p.1 + 1, p.2 + 1)] _ = _
  rw [forS_cons (σ1 := [x0, x1, x2, x3, some (.sh S), some (.sh (cellD p)), some (.sh (cellD p)), x7, x8]) rfl (t p)]
  rw [forS_cons (σ1 := [x0, x1, x2, x3, some (.sh S), some (.sh (cellD p)), some (.sh (cellD (p.1, p.2 - 1))), x7, x8]) rfl (t (p.1, p.2 - 1))]
  rw [forS_cons (σ1 := [x0, x1, x2, x3, some (.sh S), some (.sh (cellD p)), some (.sh (cellD (p.1 + 1, p.2 + 1))), x7, x8]) rfl (t (p.1 + 1, p.2 + 1))]
  rfl
theorem spots_turn {ps : List Pt} (h : Sh ps) (b : Bool) (x0 x1 x2 x3 x7 x8 : O) : ∀ (qs : List Pt) (x5 x6 : O), ∃ y5 y6, forS (gN 5) B_law_2 (qs.map cellD) [x0, x1, x2, x3, some (.sh (shp ps b)), x5, x6, x7, x8] = .ok .nx [x0, x1, x2, x3, some (.sh (shp ps b)), y5, y6, x7, x8]
  | [], x5, x6 => ⟨x5, x6, rfl⟩
  | q :: qs, x5, x6 => by
    obtain ⟨y6, e⟩ := spot_turn h b x0 x1 x2 x3 x6 x7 x8 q
    obtain ⟨z5, z6, f⟩ := spots_turn h b x0 x1 x2 x3 x7 x8 qs (some (.sh (cellD q))) y6
    exact ⟨z5, z6, (forS_cons (σ1 := [x0, x1, x2, x3, some (.sh (shp ps b)), some (.sh (cellD q)), x6, x7, x8]) rfl e).trans f⟩
abbrev sF (n : Int) (b : Pt) (L : List Pt) (x3 x4 x5 x6 x7 x8 x9 x10 : O) : SS := [some (.sh (.int n)), some (.sh (cellD b)), some (.ow (.dict (dctT L))), x3, x4, x5, x6, x7, x8, x9, x10]
theorem intB (t : Bool) : intD [.bool t] = .ok (.int (if t then 1 else 0)) := rfl
theorem mul19 (t : Bool) : mulD (.int 19) (.int (if t then 1 else 0)) = .ok (.int (19 * (if t then 1 else 0))) := by cases t <;> rfl
theorem full_cell (n : Int) (b : Pt) (L : List Pt) (r q : Int) (x5 x6 x7 x8 x9 x10 : O) (g : Gd L) (hl : L.length < 9000) : ∃ M, Gd M ∧ M ≠ [] ∧ M.length ≤ L.length + 1 ∧ B_law_full_1 (sF n b L (some (.sh (.int r))) (some (.sh (.int q))) x5 x6 x7 x8 x9 x10) = .ok .nx (sF n b M (some (.sh (.int r))) (some (.sh (.int q))) x5 x6 x7 x8 x9 x10) := by
  refine ⟨_, g.add (b.1 - r) (b.2 + q - 19 * (if decide (0 < b.2) then 1 else 0)), addC_ne _ _, len_addC _ _, ?_⟩
  have k := kp_ok (b.1 - r) (b.2 + q - 19 * (if decide (0 < b.2) then 1 else 0))
  unfold B_law_full_1
  simp only [sPut, ownD, List.getElem?_cons_succ, List.getElem?_cons_zero]
  generalize D_law_kept = Ke at *
  walk_at "ev"
  rw [intB]
  walk_at "ev"
  rw [mul19]
  walk_at "ev"
  rw [k]
  walk_at "ev"
  rw [put_cell (by omega)]
  rfl
theorem full_row (n : Int) (b : Pt) (L : List Pt) (r : Int) (x4 x5 x6 x7 x8 x9 x10 : O) (g : Gd L) (hl : L.length < 8000) : SN (B_law_full_2 (sF n b L (some (.sh (.int r))) x4 x5 x6 x7 x8 x9 x10)) (fun σ => ∃ M y4, Gd M ∧ M ≠ [] ∧ M.length ≤ L.length + 20 ∧ σ = sF n b M (some (.sh (.int r))) y4 x5 x6 x7 x8 x9 x10) := by
  have key : ∀ (m : Nat) (L : List Pt) (x4 : O), Gd L → L.length + m < 9000 → ∀ qs : List Int, qs.length = m → (L ≠ [] ∨ 0 < m) → ∃ M y4, Gd M ∧ M ≠ [] ∧ M.length ≤ L.length + m ∧ forS (gN 4) B_law_full_1 (qs.map .int) (sF n b L (some (.sh (.int r))) x4 x5 x6 x7 x8 x9 x10) = .ok .nx (sF n b M (some (.sh (.int r))) y4 x5 x6 x7 x8 x9 x10) := by
    intro m
    induction m with
    | zero =>
      intro L x4 g hl qs hq ne
      rw [List.eq_nil_of_length_eq_zero hq]
      exact ⟨L, x4, g, ne.resolve_right (by omega), Nat.le_refl _, rfl⟩
    | succ m ih =>
      intro L x4 g hl qs hq _
      match qs, hq with
      | q :: qs, hq =>
        obtain ⟨M, m1, m2, m3, e⟩ := full_cell n b L r q x5 x6 x7 x8 x9 x10 g (by omega)
        obtain ⟨M2, y4, k1, k2, k3, f⟩ := ih M (some (.sh (.int q))) m1 (by omega) qs (by simpa using hq) (.inl m2)
        exact ⟨M2, y4, k1, k2, by omega, (forS_cons (σ1 := sF n b L (some (.sh (.int r))) (some (.sh (.int q))) x5 x6 x7 x8 x9 x10) rfl e).trans f⟩
  unfold B_law_full_2 I_law_full_1
  walk_at "ev"
  rw [rngI (by decide), rangeD_I0]
  walk_at "ev"
  obtain ⟨M, y4, m1, m2, m3, e⟩ := key 20 L x4 g (by omega) (rangeI0 20) (by decide) (.inr (by decide))
  exact ⟨_, e, M, y4, m1, m2, m3, rfl⟩
theorem full_rows (n : Int) (b : Pt) (x5 x6 x7 x8 x9 x10 : O) : ∀ (m : Nat) (L : List Pt) (x3 x4 : O), Gd L → L.length + 20 * m < 8000 → ∀ rs : List Int, rs.length = m → (L ≠ [] ∨ 0 < m) → ∃ M y3 y4, Gd M ∧ M ≠ [] ∧ M.length ≤ L.length + 20 * m ∧ forS (gN 3) B_law_full_2 (rs.map .int) (sF n b L x3 x4 x5 x6 x7 x8 x9 x10) = .ok .nx (sF n b M y3 y4 x5 x6 x7 x8 x9 x10) := by
  intro m
  induction m with
  | zero =>
    intro L x3 x4 g hl rs hr ne
    rw [List.eq_nil_of_length_eq_zero hr]
    exact ⟨L, x3, x4, g, ne.resolve_right (by omega), Nat.le_refl _, rfl⟩
  | succ m ih =>
    intro L x3 x4 g hl rs hr _
    match rs, hr with
    | r :: rs, hr =>
      obtain ⟨_, e, M, y4, m1, m2, m3, rfl⟩ := full_row n b L r x4 x5 x6 x7 x8 x9 x10 g (by omega)
      obtain ⟨M2, y3, z4, k1, k2, k3, f⟩ := ih M (some (.sh (.int r))) y4 m1 (by omega) rs (by simpa using hr) (.inl m2)
      exact ⟨M2, y3, z4, k1, k2, by omega, (forS_cons (σ1 := sF n b L (some (.sh (.int r))) x4 x5 x6 x7 x8 x9 x10) rfl e).trans f⟩
theorem full_ask {ps : List Pt} (h : Sh ps) (hn : ps ≠ []) (L : List Pt) (n : Int) (x1 x3 x4 x6 x7 x8 x9 x10 : O) : ∃ n' y7 y8 y9 y10, B_law_full_3 [some (.sh (.int n)), x1, some (.sh (.dict (dctT L))), x3, x4, some (.sh (shp ps false)), x6, x7, x8, x9, x10] = .ok .nx [some (.sh (.int n')), x1, some (.sh (.dict (dctT L))), x3, x4, some (.sh (shp ps false)), x6, y7, y8, y9, y10] := by
  have i0 : ixD (shp ps false) (.int 0) = .ok (tupC ps) := rfl
  obtain ⟨ln, hln⟩ : ∃ c : Int, c = (ps.length : Nat) := ⟨_, rfl⟩
  have l0 : lenD [tupC ps] = .ok (.int ln) := by rw [hln]; show lenD [.tuple (ps.map cellD)] = _; rw [E3.len_tup, List.length_map]
  have lp : 0 < ln := by
    have := List.length_pos_iff.mpr hn
    omega
  have hat0 := Int.emod_nonneg (n % 400) (Int.ne_of_gt lp)
  have hat1 := Int.emod_lt_of_pos (n % 400) lp
  obtain ⟨a, ha⟩ : ∃ a : Nat, (a : Int) = n % 400 % ln := ⟨(n % 400 % ln).toNat, by omega⟩
  obtain ⟨p, hp⟩ : ∃ p, ps[a]? = some p := ⟨_, List.getElem?_eq_getElem (by omega)⟩
  have hx : ixD (tupC ps) (.int (a : Nat)) = .ok (cellD p) := (ix_at (by rw [List.getElem?_map, hp]; rfl)).1
  have k := kp_ok (p.1 + n / 400 % 9 / 3 - 1) (p.2 + n / 400 % 9 % 3 - 1)
  have as := asked_ok h false _ (mid_kp (p.1 + n / 400 % 9 / 3 - 1) (p.2 + n / 400 % 9 % 3 - 1))
  have ni := notIn_dct (H20.kp (p.1 + n / 400 % 9 / 3 - 1), H20.kp (p.2 + n / 400 % 9 % 3 - 1)) L
  generalize (H20.kp (p.1 + n / 400 % 9 / 3 - 1), H20.kp (p.2 + n / 400 % 9 % 3 - 1)) = there at *
  refine ⟨n / 400 / 9, some (.sh (.int (n % 400))), some (.sh (.int (n / 400 % 9))), some (.sh (cellD p)), some (.sh (cellD there)), ?_⟩
  unfold B_law_full_3
  generalize D_law_kept = Ke at *
  generalize D_law_asked = Asd at *
  generalize shp ps false = S at *
  generalize tupC ps = t at *
  generalize dctT L = dd at *
  walk_at "ev"
  rw [i0]
  walk_at "ev"
  rw [l0]
  walk_at "ev"
  rw [← ha, hx]
  walk_at "ev"
  rw [k]
  walk_at "ev"
  rw [ni]
  walk_at "ev"
  cases !decide (there ∈ L) with
  | false => walk_at "ev"
  | true =>
    walk_at "ev"
    rw [as]
    walk_at "ev"
theorem full_asks {ps : List Pt} (h : Sh ps) (hn : ps ≠ []) (L : List Pt) (x1 x3 x4 : O) : ∀ (ks : List Int) (n : Int) (x6 x7 x8 x9 x10 : O), ∃ n' y6 y7 y8 y9 y10, forS (gN 6) B_law_full_3 (ks.map .int) [some (.sh (.int n)), x1, some (.sh (.dict (dctT L))), x3, x4, some (.sh (shp ps false)), x6, x7, x8, x9, x10] = .ok .nx [some (.sh (.int n')), x1, some (.sh (.dict (dctT L))), x3, x4, some (.sh (shp ps false)), y6, y7, y8, y9, y10]
  | [], n, x6, x7, x8, x9, x10 => ⟨n, x6, x7, x8, x9, x10, rfl⟩
  | k :: ks, n, x6, x7, x8, x9, x10 => by
    obtain ⟨n1, y7, y8, y9, y10, e⟩ := full_ask h hn L n x1 x3 x4 (some (.sh (.int k))) x7 x8 x9 x10
    obtain ⟨n2, z6, z7, z8, z9, z10, f⟩ := full_asks h hn L x1 x3 x4 ks n1 (some (.sh (.int k))) y7 y8 y9 y10
    exact ⟨n2, z6, z7, z8, z9, z10, (forS_cons (σ1 := [some (.sh (.int n)), x1, some (.sh (.dict (dctT L))), x3, x4, some (.sh (shp ps false)), some (.sh (.int k)), x7, x8, x9, x10]) rfl e).trans f⟩
theorem full_ok (n : Int) (hn : 0 ≤ n) : D_law_full [.int n] = .ok (.bool true) := by
  obtain ⟨b, n1, h1, e1⟩ := base_ok n hn
  have e1' : D_law_base [.int n] = .ok (.tuple [cellD b, .int n1]) := by rw [base_q, ← base_is]; exact e1
  obtain ⟨M, y3, y4, m1, m2, m3, e2⟩ := full_rows n1 b none none none none none none 20 [] none none Gd.nil (by decide) (rangeI0 20) (by decide) (.inr (by decide))
  have hs : Sh (srt M) := ⟨pw_srt _, by have := srt_len M; simp at m3; omega⟩
  have hne : srt M ≠ [] := fun z => m2 (List.eq_nil_of_length_eq_zero (by rw [← srt_same m1.nd, z]; rfl))
  obtain ⟨n2, z6, z7, z8, z9, z10, e3⟩ := full_asks hs hne M (some (.sh (cellD b))) y3 y4 (rangeI0 3) n1 none none none none none
  have so := sort_dct m1.nd
  have k := kp_ok (b.1 - 20) b.2
  have as := asked_ok hs false _ (mid_kp (b.1 - 20) b.2)
  generalize (H20.kp (b.1 - 20), H20.kp b.2) = there at *
  unfold D_law_full I_law_full_2 T_law_full_2 I_law_full_3 T_law_full_1
  generalize D_law_base = Ba at *
  generalize D_law_kept = Ke at *
  generalize D_law_asked = Asd at *
  walk_at "ev"
  rw [e1']
  walk_at "ev"
  rw [rngI (by decide), rangeD_I0]
  walk_at "ev"
  rw [show (PyData.dict []) = .dict (dctT []) from rfl, show (forS (gN 3) B_law_full_2 ((rangeI0 20).map PyData.int) [some (.sh (.int n1)), some (.sh (cellD b)), some (.ow (.dict (dctT []))), none, none, none, none, none, none, none, none]) = _ from e2]
  walk_at "ev"
  rw [so]
  walk_at "ev"
  rw [rngI (by decide), rangeD_I0]
  walk_at "ev"
  rw [show (forS (gN 6) B_law_full_3 ((rangeI0 3).map PyData.int) [some (.sh (.int n1)), some (.sh (cellD b)), some (.sh (.dict (dctT M))), y3, y4, some (.sh (.tuple [.tuple ((srt M).map cellD), .bool false])), none, none, none, none, none]) = _ from e3]
  walk_at "ev"
  rw [k]
  walk_at "ev"
  rw [as]
  walk_at "ev"
def DUE : DS → Res D := eLc (fun σ => ((eVar 2) σ).bind seqOf) (gN 5) [5] (tB (e2 eqD (eCall D_law_word_due (aCons (eTup (aCons (eVar 2) (aCons (eC (.bool false)) aNil))) (aCons (eVar 5) aNil))) (eC (.str "loose")))) (eVar 5)
theorem due_lc {ps : List Pt} (h : Sh ps) (hb : ∀ p ∈ ps, H20.inF p) (a b c d e f g i : Option D) : DUE [a, b, some (tupC ps), c, d, e, f, g, i] = .ok (.list ((ps.filter (isL ps false)).map cellD)) := by
  have hl := h.len
  refine lcCT (t := isL ps false) (g := cellD) ps rfl (by omega) (fun p hp => ?_) (fun p _ _ => rfl) (by show 5 < 9; decide)
  obtain ⟨w, w1, w2⟩ := word_ok ps false p (mid_of (hb p hp))
  rw [← word_q] at w1
  show (tB (e2 eqD (eCall D_law_word_due (aCons (eTup (aCons (eVar 2) (aCons (eC (.bool false)) aNil))) (aCons (eVar 5) aNil))) (eC (.str "loose")))) [a, b, some (tupC ps), c, d, some (cellD p), f, g, i] = _
  generalize D_law_word_due = W at *
  walk_at "ev"
  rw [show (PyData.tuple [tupC ps, .bool false]) = shp ps false from rfl, w1]
  walk_at "ev"
  rw [w2]
  walk_at "ev"
def TQ : SF := (sSeq (sSet 7 DUE)
  (sSeq (sNew 8 (eCall D_loose_cells (aCons (eTup (aCons (eVar 2) (aCons (eC (.bool false)) aNil))) aNil)))
  (sSeq (sIf (E3.tOr (E3.tNot (E3.tB (e1 (isiD "list") (eVar 8)))) (tB (e2 neD (eVar 8) (eVar 7)))) (sRet (eC (.bool false))) sNil)
  (sSeq (sMut 8 appendM (aCons (eTup (aCons (eC (.int 0)) (aCons (eC (.int 0)) aNil))) aNil))
  (sFreeze 8 (sSeq (sIf (tB (e2 neD (eCall D_loose_cells (aCons (eTup (aCons (eVar 2) (aCons (eC (.bool false)) aNil))) aNil)) (eVar 7))) (sRet (eC (.bool false))) sNil)
  (sSeq (sIf (E3.tAnd (tB (e2 eqD (e2 modD (eVar 3) (eC (.int 8))) (eC (.int 3)))) (E3.tNot (E3.tB (eCall D_law_full (aCons (e2 fdivD (eVar 3) (eC (.int 8))) aNil))))) (sRet (eC (.bool false))) sNil)
  (sIf (E3.tAnd (tB (e2 eqD (e2 modD (eVar 3) (eC (.int 8))) (eC (.int 5)))) (E3.tNot (E3.tB (eCall D_law_asked (aCons (eTup (aCons (eTup aNil) (aCons (eC (.bool true)) aNil))) (aCons (eCall D_law_kept (aCons (e2 modD (e2 fdivD (eVar 3) (eC (.int 8))) (eC (.int 9))) (aCons (e2 modD (e2 fdivD (eVar 3) (eC (.int 72))) (eC (.int 9))) aNil))) aNil)))))) (sRet (eC (.bool false))) sNil))))))))
theorem tq : T_law_1 = TQ := rfl
theorem ne_self (l : List Pt) : neD (.list (l.map cellD)) (.list (l.map cellD)) = .ok (.bool false) := by
  have e := eq_lists l l
  rw [decide_eq_true rfl] at e
  unfold eqD at e
  unfold neD
  split at e
  · rename_i q
    rw [if_pos q]
    injection e with e1
    injection e1 with e2
    rw [e2]; rfl
  · cases e
theorem tq_ok {ps : List Pt} (h : Sh ps) (hb : ∀ p ∈ ps, H20.inF p) (n : Int) (hn : 0 ≤ n) (x0 x1 x4 x5 x6 x7 x8 : O) : ∃ y7 y8, TQ [x0, x1, some (.sh (tupC ps)), some (.sh (.int n)), x4, x5, x6, x7, x8] = .ok .nx [x0, x1, some (.sh (tupC ps)), some (.sh (.int n)), x4, x5, x6, y7, y8] := by
  have hl := h.len
  have du := due_lc h hb (x0.bind Slot.shd) (x1.bind Slot.shd) (some (.int n)) (x4.bind Slot.shd) (x5.bind Slot.shd) (x6.bind Slot.shd) (x7.bind Slot.shd) (x8.bind Slot.shd)
  have lc := lcs_ok h
  have fl : (ps.filter (isL ps false)).length ≤ 5000 := Nat.le_trans (List.length_filter_le _ _) hl
  have ne := ne_self (ps.filter (isL ps false))
  have ap := app_any (l := (ps.filter (isL ps false)).map cellD) (p := .tuple [.int 0, .int 0]) (by rw [List.length_map]; omega)
  have fu := full_ok (n / 8) (by omega)
  have k := kp_ok (n / 8 % 9) (n / 72 % 9)
  have as := asked_ok (ps := []) ⟨List.Pairwise.nil, Nat.zero_le _⟩ true _ (mid_kp (n / 8 % 9) (n / 72 % 9))
  generalize (H20.kp (n / 8 % 9), H20.kp (n / 72 % 9)) = there at *
  refine ⟨some (.sh (.list ((ps.filter (isL ps false)).map cellD))), some (.sh (.list ((ps.filter (isL ps false)).map cellD ++ [.tuple [.int 0, .int 0]]))), ?_⟩
  unfold TQ
  generalize (ps.filter (isL ps false)).map cellD = G at *
  generalize DUE = Du at *
  generalize D_loose_cells = Lo at *
  generalize D_law_full = Fu at *
  generalize D_law_asked = Asd at *
  generalize D_law_kept = Ke at *
  walk_at "ev"
  rw [du]
  walk_at "ev"
  rw [show (PyData.tuple [tupC ps, .bool false]) = shp ps false from rfl, lc]
  walk_at "ev"
  rw [ne]
  walk_at "ev"
  simp only [ownL, List.getElem?_cons_succ, List.getElem?_cons_zero]
  walk_at "ev"
  rw [ap]
  simp only [mutK]
  walk_at "ev"
  rw [show (PyData.tuple [tupC ps, .bool false]) = shp ps false from rfl, lc]
  walk_at "ev"
  rw [ne]
  walk_at "ev"
  have step2 : ∀ σ : SS, σ = [x0, x1, some (.sh (tupC ps)), some (.sh (.int n)), x4, x5, x6, some (.sh (.list G)), some (.sh (.list (G ++ [.tuple [.int 0, .int 0]])))] → sIf (E3.tAnd (tB (e2 eqD (e2 modD (eVar 3) (eC (.int 8))) (eC (.int 5)))) (E3.tNot (E3.tB (eCall Asd (aCons (eTup (aCons (eTup aNil) (aCons (eC (.bool true)) aNil))) (aCons (eCall Ke (aCons (e2 modD (e2 fdivD (eVar 3) (eC (.int 8))) (eC (.int 9))) (aCons (e2 modD (e2 fdivD (eVar 3) (eC (.int 72))) (eC (.int 9))) aNil))) aNil)))))) (sRet (eC (.bool false))) sNil σ = .ok .nx σ := by
    rintro σ rfl
    walk_at "ev"
    cases n % 8 == 5 with
    | false => walk_at "ev"
    | true =>
      walk_at "ev"
      rw [k]
      walk_at "ev"
      rw [show (PyData.tuple [.tuple [], .bool true]) = shp [] true from rfl, as]
      walk_at "ev"
  have s2 := step2 _ rfl
  cases n % 8 == 3 with
  | false =>
    walk_at "ev"
    exact s2
  | true =>
    walk_at "ev"
    rw [fu]
    walk_at "ev"
    exact s2
theorem b3_q : B_law_3 = sSeq (sAsg (gT 2 (gsCons (gN 2) (gsCons (gN 3) gsNil))) (eCall D_law_board (aCons (eCall D_law_deal (aCons (eVar 1) (aCons (eC (.int 1)) aNil))) aNil)))
  (sSeq (sSet 4 (eTup (aCons (eVar 2) (aCons (e2 eqD (e2 modD (eVar 3) (eC (.int 3))) (eC (.int 1))) aNil))))
  (sSeq (sFor I_law_2 (gN 5) B_law_2) TQ)) := rfl
theorem law_true (ns : List Int) (h : ns.length ≤ 63) : D_law [.list (ns.map .int)] = .ok (.bool true) := by
  refine law_skel (Inv := fun σ => ∃ x1 x2 x3 x4 x5 x6 x7 x8, σ = [some (.sh (.list (ns.map .int))), x1, x2, x3, x4, x5, x6, x7, x8]) ?_ ⟨_, _, _, _, _, _, _, _, rfl⟩ ?_
  · obtain ⟨c, hc⟩ := law_cell_ok ns 0 (by decide)
    obtain ⟨ms, hm⟩ := it_of c ns (some 1) (some 11) h
    refine ⟨ms, ?_⟩
    unfold I_law_3
    have hc' : D_law_cell [.list (ns.map .int), .int 0] = .ok (.int c) := hc
    generalize D_law_cell = L at *
    walk_at "ev"
    rw [hc']
    walk_at "ev"
    rw [show slD (.list (ns.map PyData.int)) (some 1) (some 11) = .ok (.list (cutD (ns.map PyData.int) (some 1) (some 11))) from rfl]
    walk_at "ev"
    rw [hm]
    walk_at "ev"
  · rintro m σ ⟨x1, x2, x3, x4, x5, x6, x7, x8, rfl⟩
    obtain ⟨n, hn, e1⟩ := deal2_ok m 1 (by decide)
    obtain ⟨ps, n', h0, hw, hl, hb, e2⟩ := board_okB n hn
    rw [← deal_q] at e1
    rw [← board_q] at e2
    have sh0 : Sh ps := ⟨hw, by omega⟩
    rw [b3_q]
    generalize hx0 : some (E3.Slot.sh (PyData.list (ns.map PyData.int))) = x0
    refine SN.seq (P := fun σ => ∃ y1, σ = [x0, y1, some (.sh (tupC ps)), some (.sh (.int n')), x4, x5, x6, x7, x8]) ⟨_, ?_, some (.sh (.int m)), rfl⟩ ?_
    · generalize D_law_deal = L at *
      generalize D_law_board = B at *
      generalize tupC ps = t at *
      walk_at "ev"
      rw [e1]
      walk_at "ev"
      rw [e2]
      walk_at "ev"
    rintro σ ⟨y1, rfl⟩
    refine SN.seq (P := fun σ => σ = [x0, y1, some (.sh (tupC ps)), some (.sh (.int n')), some (.sh (shp ps (n' % 3 == 1))), x5, x6, x7, x8]) ⟨_, (by walk_at "ev"; first | done | rfl), rfl⟩ ?_
    rintro σ rfl
    refine SN.seq (P := fun σ => ∃ y5 y6, σ = [x0, y1, some (.sh (tupC ps)), some (.sh (.int n')), some (.sh (shp ps (n' % 3 == 1))), y5, y6, x7, x8]) ?_ ?_
    · obtain ⟨y5, y6, e⟩ := spots_turn sh0 (n' % 3 == 1) x0 y1 (some (.sh (tupC ps))) (some (.sh (.int n'))) x7 x8 (ps ++ [(0, 0)]) x5 x6
      have ad : addD (tupC ps) (.tuple [.tuple [.int 0, .int 0]]) = .ok (.tuple ((ps ++ [(0, 0)]).map cellD)) := by
        show (if _ then _ else _) = _
        rw [if_pos (by rw [List.length_map, sizeLine_eq]; show ps.length + 1 ≤ _; omega), List.map_append]
        rfl
      unfold I_law_2
      generalize shp ps (n' % 3 == 1) = S at *
      generalize tupC ps = t at *
      walk_at "ev"
      rw [ad]
      walk_at "ev"
      rw [e]
      exact SN.ok ⟨y5, y6, rfl⟩
    rintro σ ⟨y5, y6, rfl⟩
    obtain ⟨y7, y8, e⟩ := tq_ok sh0 hb n' h0 x0 y1 (some (.sh (shp ps (n' % 3 == 1)))) y5 y6 x7 x8
    exact ⟨_, e, _, _, _, _, _, _, _, _, rfl⟩
end
end K73

namespace K73
open PySem PySem.Spec PyProof.Rows L2 E3

theorem all_mk {l : PySem.W.OpenLaw} {w : World} {K : PySem.W.Frag} {h : Heap} {mg : Str → Option Value} {fa : Addr} (X : K.In h) (G : h.Ns mainGlobals mg) (hfa : mg "law" = some (.ref fa))
    {f_law_base f_law_kept f_law_board f_look_finite f_noted f_flooded f_near_cells f_why_around f_loose_cells f_law_cell f_law_deal f_law_has f_why_loose f_is_loose f_may_come f_law_around f_law_fallen f_law_word_due f_law_asked f_law_full f_law : Addr} {od_law_base od_law_kept od_law_board od_look_finite od_noted od_flooded od_near_cells od_why_around od_loose_cells od_law_cell od_law_deal od_law_has od_why_loose od_is_loose od_may_come od_law_around od_law_fallen od_law_word_due od_law_asked od_law_full od_law an_law_base an_law_kept an_law_board an_look_finite an_noted an_flooded an_near_cells an_why_around an_loose_cells an_law_cell an_law_deal an_law_has an_why_loose an_is_loose an_may_come an_law_around an_law_fallen an_law_word_due an_law_asked an_law_full an_law : Option Addr} {sl_law_base sl_law_kept sl_law_board sl_look_finite sl_noted sl_flooded sl_near_cells sl_why_around sl_loose_cells sl_law_cell sl_law_deal sl_law_has sl_why_loose sl_is_loose sl_may_come sl_law_around sl_law_fallen sl_law_word_due sl_law_asked sl_law_full sl_law : Array (Option Value)} {oc_law_base oc_law_kept oc_law_board oc_look_finite oc_noted oc_flooded oc_near_cells oc_why_around oc_loose_cells oc_law_cell oc_law_deal oc_law_has oc_why_loose oc_is_loose oc_may_come oc_law_around oc_law_fallen oc_law_word_due oc_law_asked oc_law_full oc_law kV_law_base kV_law_kept kV_law_board kV_look_finite kV_noted kV_flooded kV_near_cells kV_why_around kV_loose_cells kV_law_cell kV_law_deal kV_law_has kV_why_loose kV_is_loose kV_may_come kV_law_around kV_law_fallen kV_law_word_due kV_law_asked kV_law_full kV_law dc_law_base dc_law_kept dc_law_board dc_look_finite dc_noted dc_flooded dc_near_cells dc_why_around dc_loose_cells dc_law_cell dc_law_deal dc_law_has dc_why_loose dc_is_loose dc_may_come dc_law_around dc_law_fallen dc_law_word_due dc_law_asked dc_law_full dc_law pm_law_base pm_law_kept pm_law_board pm_look_finite pm_noted pm_flooded pm_near_cells pm_why_around pm_loose_cells pm_law_cell pm_law_deal pm_law_has pm_why_loose pm_is_loose pm_may_come pm_law_around pm_law_fallen pm_law_word_due pm_law_asked pm_law_full pm_law cd_law_base cd_law_kept cd_law_board cd_look_finite cd_noted cd_flooded cd_near_cells cd_why_around cd_loose_cells cd_law_cell cd_law_deal cd_law_has cd_why_loose cd_is_loose cd_may_come cd_law_around cd_law_fallen cd_law_word_due cd_law_asked cd_law_full cd_law ct_law_base ct_law_kept ct_law_board ct_look_finite ct_noted ct_flooded ct_near_cells ct_why_around ct_loose_cells ct_law_cell ct_law_deal ct_law_has ct_why_loose ct_is_loose ct_may_come ct_law_around ct_law_fallen ct_law_word_due ct_law_asked ct_law_full ct_law : Value}
    (a_law_base : PySem.W.nsIn K mainGlobals "_law_base" = some (some (.ref f_law_base)))
    (l_law_base : K.lookup f_law_base = some ⟨oc_law_base, od_law_base, .func (PySem.W.fnOf "_law_base" "_law_base" (defArgs s_law_base) (defBody s_law_base) (defScope s_law_base) .none kV_law_base dc_law_base pm_law_base an_law_base cd_law_base ct_law_base), sl_law_base⟩)
    (c_law_base : PySem.W.codeIn K cd_law_base "_law_base" = true)
    (k_law_base : PySem.W.keepIn K (.ref f_law_base) = true)
    (a_law_kept : PySem.W.nsIn K mainGlobals "_law_kept" = some (some (.ref f_law_kept)))
    (l_law_kept : K.lookup f_law_kept = some ⟨oc_law_kept, od_law_kept, .func (PySem.W.fnOf "_law_kept" "_law_kept" (defArgs s_law_kept) (defBody s_law_kept) (defScope s_law_kept) .none kV_law_kept dc_law_kept pm_law_kept an_law_kept cd_law_kept ct_law_kept), sl_law_kept⟩)
    (c_law_kept : PySem.W.codeIn K cd_law_kept "_law_kept" = true)
    (k_law_kept : PySem.W.keepIn K (.ref f_law_kept) = true)
    (a_law_board : PySem.W.nsIn K mainGlobals "_law_board" = some (some (.ref f_law_board)))
    (l_law_board : K.lookup f_law_board = some ⟨oc_law_board, od_law_board, .func (PySem.W.fnOf "_law_board" "_law_board" (defArgs s_law_board) (defBody s_law_board) (defScope s_law_board) .none kV_law_board dc_law_board pm_law_board an_law_board cd_law_board ct_law_board), sl_law_board⟩)
    (c_law_board : PySem.W.codeIn K cd_law_board "_law_board" = true)
    (k_law_board : PySem.W.keepIn K (.ref f_law_board) = true)
    (a_look_finite : PySem.W.nsIn K mainGlobals "look_finite" = some (some (.ref f_look_finite)))
    (l_look_finite : K.lookup f_look_finite = some ⟨oc_look_finite, od_look_finite, .func (PySem.W.fnOf "look_finite" "look_finite" (defArgs s_look_finite) (defBody s_look_finite) (defScope s_look_finite) .none kV_look_finite dc_look_finite pm_look_finite an_look_finite cd_look_finite ct_look_finite), sl_look_finite⟩)
    (c_look_finite : PySem.W.codeIn K cd_look_finite "look_finite" = true)
    (k_look_finite : PySem.W.keepIn K (.ref f_look_finite) = true)
    (a_noted : PySem.W.nsIn K mainGlobals "noted" = some (some (.ref f_noted)))
    (l_noted : K.lookup f_noted = some ⟨oc_noted, od_noted, .func (PySem.W.fnOf "noted" "noted" (defArgs s_noted) (defBody s_noted) (defScope s_noted) .none kV_noted dc_noted pm_noted an_noted cd_noted ct_noted), sl_noted⟩)
    (c_noted : PySem.W.codeIn K cd_noted "noted" = true)
    (k_noted : PySem.W.keepIn K (.ref f_noted) = true)
    (a_flooded : PySem.W.nsIn K mainGlobals "flooded" = some (some (.ref f_flooded)))
    (l_flooded : K.lookup f_flooded = some ⟨oc_flooded, od_flooded, .func (PySem.W.fnOf "flooded" "flooded" (defArgs s_flooded) (defBody s_flooded) (defScope s_flooded) .none kV_flooded dc_flooded pm_flooded an_flooded cd_flooded ct_flooded), sl_flooded⟩)
    (c_flooded : PySem.W.codeIn K cd_flooded "flooded" = true)
    (k_flooded : PySem.W.keepIn K (.ref f_flooded) = true)
    (a_near_cells : PySem.W.nsIn K mainGlobals "near_cells" = some (some (.ref f_near_cells)))
    (l_near_cells : K.lookup f_near_cells = some ⟨oc_near_cells, od_near_cells, .func (PySem.W.fnOf "near_cells" "near_cells" (defArgs s_near_cells) (defBody s_near_cells) (defScope s_near_cells) .none kV_near_cells dc_near_cells pm_near_cells an_near_cells cd_near_cells ct_near_cells), sl_near_cells⟩)
    (c_near_cells : PySem.W.codeIn K cd_near_cells "near_cells" = true)
    (k_near_cells : PySem.W.keepIn K (.ref f_near_cells) = true)
    (a_why_around : PySem.W.nsIn K mainGlobals "why_around" = some (some (.ref f_why_around)))
    (l_why_around : K.lookup f_why_around = some ⟨oc_why_around, od_why_around, .func (PySem.W.fnOf "why_around" "why_around" (defArgs s_why_around) (defBody s_why_around) (defScope s_why_around) .none kV_why_around dc_why_around pm_why_around an_why_around cd_why_around ct_why_around), sl_why_around⟩)
    (c_why_around : PySem.W.codeIn K cd_why_around "why_around" = true)
    (k_why_around : PySem.W.keepIn K (.ref f_why_around) = true)
    (a_loose_cells : PySem.W.nsIn K mainGlobals "loose_cells" = some (some (.ref f_loose_cells)))
    (l_loose_cells : K.lookup f_loose_cells = some ⟨oc_loose_cells, od_loose_cells, .func (PySem.W.fnOf "loose_cells" "loose_cells" (defArgs s_loose_cells) (defBody s_loose_cells) (defScope s_loose_cells) .none kV_loose_cells dc_loose_cells pm_loose_cells an_loose_cells cd_loose_cells ct_loose_cells), sl_loose_cells⟩)
    (c_loose_cells : PySem.W.codeIn K cd_loose_cells "loose_cells" = true)
    (k_loose_cells : PySem.W.keepIn K (.ref f_loose_cells) = true)
    (a_law_cell : PySem.W.nsIn K mainGlobals "_law_cell" = some (some (.ref f_law_cell)))
    (l_law_cell : K.lookup f_law_cell = some ⟨oc_law_cell, od_law_cell, .func (PySem.W.fnOf "_law_cell" "_law_cell" (defArgs s_law_cell) (defBody s_law_cell) (defScope s_law_cell) .none kV_law_cell dc_law_cell pm_law_cell an_law_cell cd_law_cell ct_law_cell), sl_law_cell⟩)
    (c_law_cell : PySem.W.codeIn K cd_law_cell "_law_cell" = true)
    (k_law_cell : PySem.W.keepIn K (.ref f_law_cell) = true)
    (a_law_deal : PySem.W.nsIn K mainGlobals "_law_deal" = some (some (.ref f_law_deal)))
    (l_law_deal : K.lookup f_law_deal = some ⟨oc_law_deal, od_law_deal, .func (PySem.W.fnOf "_law_deal" "_law_deal" (defArgs s_law_deal) (defBody s_law_deal) (defScope s_law_deal) .none kV_law_deal dc_law_deal pm_law_deal an_law_deal cd_law_deal ct_law_deal), sl_law_deal⟩)
    (c_law_deal : PySem.W.codeIn K cd_law_deal "_law_deal" = true)
    (k_law_deal : PySem.W.keepIn K (.ref f_law_deal) = true)
    (a_law_has : PySem.W.nsIn K mainGlobals "_law_has" = some (some (.ref f_law_has)))
    (l_law_has : K.lookup f_law_has = some ⟨oc_law_has, od_law_has, .func (PySem.W.fnOf "_law_has" "_law_has" (defArgs s_law_has) (defBody s_law_has) (defScope s_law_has) .none kV_law_has dc_law_has pm_law_has an_law_has cd_law_has ct_law_has), sl_law_has⟩)
    (c_law_has : PySem.W.codeIn K cd_law_has "_law_has" = true)
    (k_law_has : PySem.W.keepIn K (.ref f_law_has) = true)
    (a_why_loose : PySem.W.nsIn K mainGlobals "why_loose" = some (some (.ref f_why_loose)))
    (l_why_loose : K.lookup f_why_loose = some ⟨oc_why_loose, od_why_loose, .func (PySem.W.fnOf "why_loose" "why_loose" (defArgs s_why_loose) (defBody s_why_loose) (defScope s_why_loose) .none kV_why_loose dc_why_loose pm_why_loose an_why_loose cd_why_loose ct_why_loose), sl_why_loose⟩)
    (c_why_loose : PySem.W.codeIn K cd_why_loose "why_loose" = true)
    (k_why_loose : PySem.W.keepIn K (.ref f_why_loose) = true)
    (a_is_loose : PySem.W.nsIn K mainGlobals "is_loose" = some (some (.ref f_is_loose)))
    (l_is_loose : K.lookup f_is_loose = some ⟨oc_is_loose, od_is_loose, .func (PySem.W.fnOf "is_loose" "is_loose" (defArgs s_is_loose) (defBody s_is_loose) (defScope s_is_loose) .none kV_is_loose dc_is_loose pm_is_loose an_is_loose cd_is_loose ct_is_loose), sl_is_loose⟩)
    (c_is_loose : PySem.W.codeIn K cd_is_loose "is_loose" = true)
    (k_is_loose : PySem.W.keepIn K (.ref f_is_loose) = true)
    (a_may_come : PySem.W.nsIn K mainGlobals "may_come" = some (some (.ref f_may_come)))
    (l_may_come : K.lookup f_may_come = some ⟨oc_may_come, od_may_come, .func (PySem.W.fnOf "may_come" "may_come" (defArgs s_may_come) (defBody s_may_come) (defScope s_may_come) .none kV_may_come dc_may_come pm_may_come an_may_come cd_may_come ct_may_come), sl_may_come⟩)
    (c_may_come : PySem.W.codeIn K cd_may_come "may_come" = true)
    (k_may_come : PySem.W.keepIn K (.ref f_may_come) = true)
    (a_law_around : PySem.W.nsIn K mainGlobals "_law_around" = some (some (.ref f_law_around)))
    (l_law_around : K.lookup f_law_around = some ⟨oc_law_around, od_law_around, .func (PySem.W.fnOf "_law_around" "_law_around" (defArgs s_law_around) (defBody s_law_around) (defScope s_law_around) .none kV_law_around dc_law_around pm_law_around an_law_around cd_law_around ct_law_around), sl_law_around⟩)
    (c_law_around : PySem.W.codeIn K cd_law_around "_law_around" = true)
    (k_law_around : PySem.W.keepIn K (.ref f_law_around) = true)
    (a_law_fallen : PySem.W.nsIn K mainGlobals "_law_fallen" = some (some (.ref f_law_fallen)))
    (l_law_fallen : K.lookup f_law_fallen = some ⟨oc_law_fallen, od_law_fallen, .func (PySem.W.fnOf "_law_fallen" "_law_fallen" (defArgs s_law_fallen) (defBody s_law_fallen) (defScope s_law_fallen) .none kV_law_fallen dc_law_fallen pm_law_fallen an_law_fallen cd_law_fallen ct_law_fallen), sl_law_fallen⟩)
    (c_law_fallen : PySem.W.codeIn K cd_law_fallen "_law_fallen" = true)
    (k_law_fallen : PySem.W.keepIn K (.ref f_law_fallen) = true)
    (a_law_word_due : PySem.W.nsIn K mainGlobals "_law_word_due" = some (some (.ref f_law_word_due)))
    (l_law_word_due : K.lookup f_law_word_due = some ⟨oc_law_word_due, od_law_word_due, .func (PySem.W.fnOf "_law_word_due" "_law_word_due" (defArgs s_law_word_due) (defBody s_law_word_due) (defScope s_law_word_due) .none kV_law_word_due dc_law_word_due pm_law_word_due an_law_word_due cd_law_word_due ct_law_word_due), sl_law_word_due⟩)
    (c_law_word_due : PySem.W.codeIn K cd_law_word_due "_law_word_due" = true)
    (k_law_word_due : PySem.W.keepIn K (.ref f_law_word_due) = true)
    (a_law_asked : PySem.W.nsIn K mainGlobals "_law_asked" = some (some (.ref f_law_asked)))
    (l_law_asked : K.lookup f_law_asked = some ⟨oc_law_asked, od_law_asked, .func (PySem.W.fnOf "_law_asked" "_law_asked" (defArgs s_law_asked) (defBody s_law_asked) (defScope s_law_asked) .none kV_law_asked dc_law_asked pm_law_asked an_law_asked cd_law_asked ct_law_asked), sl_law_asked⟩)
    (c_law_asked : PySem.W.codeIn K cd_law_asked "_law_asked" = true)
    (k_law_asked : PySem.W.keepIn K (.ref f_law_asked) = true)
    (a_law_full : PySem.W.nsIn K mainGlobals "_law_full" = some (some (.ref f_law_full)))
    (l_law_full : K.lookup f_law_full = some ⟨oc_law_full, od_law_full, .func (PySem.W.fnOf "_law_full" "_law_full" (defArgs s_law_full) (defBody s_law_full) (defScope s_law_full) .none kV_law_full dc_law_full pm_law_full an_law_full cd_law_full ct_law_full), sl_law_full⟩)
    (c_law_full : PySem.W.codeIn K cd_law_full "_law_full" = true)
    (k_law_full : PySem.W.keepIn K (.ref f_law_full) = true)
    (a_law : PySem.W.nsIn K mainGlobals "law" = some (some (.ref f_law)))
    (l_law : K.lookup f_law = some ⟨oc_law, od_law, .func (PySem.W.fnOf "law" "law" (defArgs s_law) (defBody s_law) (defScope s_law) .none kV_law dc_law pm_law an_law cd_law ct_law), sl_law⟩)
    (c_law : PySem.W.codeIn K cd_law "law" = true)
    (k_law : PySem.W.keepIn K (.ref f_law) = true)
    (z_bool : PySem.W.nsIn K mainGlobals "bool" = some none)
    (z_divmod : PySem.W.nsIn K mainGlobals "divmod" = some none)
    (z_int : PySem.W.nsIn K mainGlobals "int" = some none)
    (z_isinstance : PySem.W.nsIn K mainGlobals "isinstance" = some none)
    (z_len : PySem.W.nsIn K mainGlobals "len" = some none)
    (z_list : PySem.W.nsIn K mainGlobals "list" = some none)
    (z_max : PySem.W.nsIn K mainGlobals "max" = some none)
    (z_min : PySem.W.nsIn K mainGlobals "min" = some none)
    (z_range : PySem.W.nsIn K mainGlobals "range" = some none)
    (z_sorted : PySem.W.nsIn K mainGlobals "sorted" = some none)
    (z_tuple : PySem.W.nsIn K mainGlobals "tuple" = some none)
    {g_AROUND : Addr} (n_AROUND : PySem.W.nsIn K mainGlobals "AROUND" = some (some (.ref g_AROUND)))
    {g_AROUND_0 g_AROUND_1 g_AROUND_2 g_AROUND_3 g_AROUND_4 g_AROUND_5 g_AROUND_6 g_AROUND_7 : Addr} {od_AROUND : Option Addr} {sl_AROUND : Array (Option Value)} {nn_AROUND : Nat} (lw_AROUND : K.lookup g_AROUND = some ⟨.type "tuple", od_AROUND, .seq #[.ref g_AROUND_0, .ref g_AROUND_1, .ref g_AROUND_2, .ref g_AROUND_3, .ref g_AROUND_4, .ref g_AROUND_5, .ref g_AROUND_6, .ref g_AROUND_7] nn_AROUND, sl_AROUND⟩)
    {t_AROUND_0_0 t_AROUND_0_1 : Tok} {od_AROUND_0 : Option Addr} {sl_AROUND_0 : Array (Option Value)} {nn_AROUND_0 : Nat} (lw_AROUND_0 : K.lookup g_AROUND_0 = some ⟨.type "tuple", od_AROUND_0, .seq #[.int (-1) t_AROUND_0_0, .int (-1) t_AROUND_0_1] nn_AROUND_0, sl_AROUND_0⟩)
    {t_AROUND_1_0 t_AROUND_1_1 : Tok} {od_AROUND_1 : Option Addr} {sl_AROUND_1 : Array (Option Value)} {nn_AROUND_1 : Nat} (lw_AROUND_1 : K.lookup g_AROUND_1 = some ⟨.type "tuple", od_AROUND_1, .seq #[.int (-1) t_AROUND_1_0, .int (0) t_AROUND_1_1] nn_AROUND_1, sl_AROUND_1⟩)
    {t_AROUND_2_0 t_AROUND_2_1 : Tok} {od_AROUND_2 : Option Addr} {sl_AROUND_2 : Array (Option Value)} {nn_AROUND_2 : Nat} (lw_AROUND_2 : K.lookup g_AROUND_2 = some ⟨.type "tuple", od_AROUND_2, .seq #[.int (-1) t_AROUND_2_0, .int (1) t_AROUND_2_1] nn_AROUND_2, sl_AROUND_2⟩)
    {t_AROUND_3_0 t_AROUND_3_1 : Tok} {od_AROUND_3 : Option Addr} {sl_AROUND_3 : Array (Option Value)} {nn_AROUND_3 : Nat} (lw_AROUND_3 : K.lookup g_AROUND_3 = some ⟨.type "tuple", od_AROUND_3, .seq #[.int (0) t_AROUND_3_0, .int (-1) t_AROUND_3_1] nn_AROUND_3, sl_AROUND_3⟩)
    {t_AROUND_4_0 t_AROUND_4_1 : Tok} {od_AROUND_4 : Option Addr} {sl_AROUND_4 : Array (Option Value)} {nn_AROUND_4 : Nat} (lw_AROUND_4 : K.lookup g_AROUND_4 = some ⟨.type "tuple", od_AROUND_4, .seq #[.int (0) t_AROUND_4_0, .int (1) t_AROUND_4_1] nn_AROUND_4, sl_AROUND_4⟩)
    {t_AROUND_5_0 t_AROUND_5_1 : Tok} {od_AROUND_5 : Option Addr} {sl_AROUND_5 : Array (Option Value)} {nn_AROUND_5 : Nat} (lw_AROUND_5 : K.lookup g_AROUND_5 = some ⟨.type "tuple", od_AROUND_5, .seq #[.int (1) t_AROUND_5_0, .int (-1) t_AROUND_5_1] nn_AROUND_5, sl_AROUND_5⟩)
    {t_AROUND_6_0 t_AROUND_6_1 : Tok} {od_AROUND_6 : Option Addr} {sl_AROUND_6 : Array (Option Value)} {nn_AROUND_6 : Nat} (lw_AROUND_6 : K.lookup g_AROUND_6 = some ⟨.type "tuple", od_AROUND_6, .seq #[.int (1) t_AROUND_6_0, .int (0) t_AROUND_6_1] nn_AROUND_6, sl_AROUND_6⟩)
    {t_AROUND_7_0 t_AROUND_7_1 : Tok} {od_AROUND_7 : Option Addr} {sl_AROUND_7 : Array (Option Value)} {nn_AROUND_7 : Nat} (lw_AROUND_7 : K.lookup g_AROUND_7 = some ⟨.type "tuple", od_AROUND_7, .seq #[.int (1) t_AROUND_7_0, .int (1) t_AROUND_7_1] nn_AROUND_7, sl_AROUND_7⟩)
    {g_SIDES : Addr} (n_SIDES : PySem.W.nsIn K mainGlobals "SIDES" = some (some (.ref g_SIDES)))
    {g_SIDES_0 g_SIDES_1 g_SIDES_2 g_SIDES_3 : Addr} {od_SIDES : Option Addr} {sl_SIDES : Array (Option Value)} {nn_SIDES : Nat} (lw_SIDES : K.lookup g_SIDES = some ⟨.type "tuple", od_SIDES, .seq #[.ref g_SIDES_0, .ref g_SIDES_1, .ref g_SIDES_2, .ref g_SIDES_3] nn_SIDES, sl_SIDES⟩)
    {t_SIDES_0_0 t_SIDES_0_1 : Tok} {od_SIDES_0 : Option Addr} {sl_SIDES_0 : Array (Option Value)} {nn_SIDES_0 : Nat} (lw_SIDES_0 : K.lookup g_SIDES_0 = some ⟨.type "tuple", od_SIDES_0, .seq #[.int (-1) t_SIDES_0_0, .int (0) t_SIDES_0_1] nn_SIDES_0, sl_SIDES_0⟩)
    {t_SIDES_1_0 t_SIDES_1_1 : Tok} {od_SIDES_1 : Option Addr} {sl_SIDES_1 : Array (Option Value)} {nn_SIDES_1 : Nat} (lw_SIDES_1 : K.lookup g_SIDES_1 = some ⟨.type "tuple", od_SIDES_1, .seq #[.int (0) t_SIDES_1_0, .int (-1) t_SIDES_1_1] nn_SIDES_1, sl_SIDES_1⟩)
    {t_SIDES_2_0 t_SIDES_2_1 : Tok} {od_SIDES_2 : Option Addr} {sl_SIDES_2 : Array (Option Value)} {nn_SIDES_2 : Nat} (lw_SIDES_2 : K.lookup g_SIDES_2 = some ⟨.type "tuple", od_SIDES_2, .seq #[.int (0) t_SIDES_2_0, .int (1) t_SIDES_2_1] nn_SIDES_2, sl_SIDES_2⟩)
    {t_SIDES_3_0 t_SIDES_3_1 : Tok} {od_SIDES_3 : Option Addr} {sl_SIDES_3 : Array (Option Value)} {nn_SIDES_3 : Nat} (lw_SIDES_3 : K.lookup g_SIDES_3 = some ⟨.type "tuple", od_SIDES_3, .seq #[.int (1) t_SIDES_3_0, .int (0) t_SIDES_3_1] nn_SIDES_3, sl_SIDES_3⟩) :
    ∃ fd : FuncData, (∀ (s : Shared) (v : Value), BindsTo s fd ⟨[v], []⟩ [("script", v)]) ∧ ∀ base : Heap, K.In base → base.Ns mainGlobals mg → FnD l.prog w K mg base 7 fa fd ["script"] D_law := by
  have e := hfa.symm.trans (PySem.W.mg_of X G a_law)
  cases e
  have F_law_base := fun_mk (st := s_law_base) l_law_base c_law_base k_law_base
  have b_law_base := F_law_base.binds (ps := ["number"]) fun _ _ _ _ _ _ us hl => match us, hl with | [_], _ => rfl
  have F_law_kept := fun_mk (st := s_law_kept) l_law_kept c_law_kept k_law_kept
  have b_law_kept := F_law_kept.binds (ps := ["row", "column"]) fun _ _ _ _ _ _ us hl => match us, hl with | [_, _], _ => rfl
  have F_law_board := fun_mk (st := s_law_board) l_law_board c_law_board k_law_board
  have b_law_board := F_law_board.binds (ps := ["number"]) fun _ _ _ _ _ _ us hl => match us, hl with | [_], _ => rfl
  have F_look_finite := fun_mk (st := s_look_finite) l_look_finite c_look_finite k_look_finite
  have b_look_finite := F_look_finite.binds (ps := ["shape"]) fun _ _ _ _ _ _ us hl => match us, hl with | [_], _ => rfl
  have F_noted := fun_mk (st := s_noted) l_noted c_noted k_noted
  have b_noted := F_noted.binds (ps := ["cells"]) fun _ _ _ _ _ _ us hl => match us, hl with | [_], _ => rfl
  have F_flooded := fun_mk (st := s_flooded) l_flooded c_flooded k_flooded
  have b_flooded := F_flooded.binds (ps := ["some", "start", "steps"]) fun _ _ _ _ _ _ us hl => match us, hl with | [_, _, _], _ => rfl
  have F_near_cells := fun_mk (st := s_near_cells) l_near_cells c_near_cells k_near_cells
  have b_near_cells := F_near_cells.binds (ps := ["cell", "steps"]) fun _ _ _ _ _ _ us hl => match us, hl with | [_, _], _ => rfl
  have F_why_around := fun_mk (st := s_why_around) l_why_around c_why_around k_why_around
  have b_why_around := F_why_around.binds (ps := ["some", "rest", "cell"]) fun _ _ _ _ _ _ us hl => match us, hl with | [_, _, _], _ => rfl
  have F_loose_cells := fun_mk (st := s_loose_cells) l_loose_cells c_loose_cells k_loose_cells
  have b_loose_cells := F_loose_cells.binds (ps := ["shape"]) fun _ _ _ _ _ _ us hl => match us, hl with | [_], _ => rfl
  have F_law_cell := fun_mk (st := s_law_cell) l_law_cell c_law_cell k_law_cell
  have b_law_cell := F_law_cell.binds (ps := ["script", "k"]) fun _ _ _ _ _ _ us hl => match us, hl with | [_, _], _ => rfl
  have F_law_deal := fun_mk (st := s_law_deal) l_law_deal c_law_deal k_law_deal
  have b_law_deal := F_law_deal.binds (ps := ["cell", "salt"]) fun _ _ _ _ _ _ us hl => match us, hl with | [_, _], _ => rfl
  have F_law_has := fun_mk (st := s_law_has) l_law_has c_law_has k_law_has
  have b_law_has := F_law_has.binds (ps := ["shape", "cell"]) fun _ _ _ _ _ _ us hl => match us, hl with | [_, _], _ => rfl
  have F_why_loose := fun_mk (st := s_why_loose) l_why_loose c_why_loose k_why_loose
  have b_why_loose := F_why_loose.binds (ps := ["shape", "cell"]) fun _ _ _ _ _ _ us hl => match us, hl with | [_, _], _ => rfl
  have F_is_loose := fun_mk (st := s_is_loose) l_is_loose c_is_loose k_is_loose
  have b_is_loose := F_is_loose.binds (ps := ["shape", "cell"]) fun _ _ _ _ _ _ us hl => match us, hl with | [_, _], _ => rfl
  have F_may_come := fun_mk (st := s_may_come) l_may_come c_may_come k_may_come
  have b_may_come := F_may_come.binds (ps := ["shape", "cell"]) fun _ _ _ _ _ _ us hl => match us, hl with | [_, _], _ => rfl
  have F_law_around := fun_mk (st := s_law_around) l_law_around c_law_around k_law_around
  have b_law_around := F_law_around.binds (ps := ["shape", "cell"]) fun _ _ _ _ _ _ us hl => match us, hl with | [_, _], _ => rfl
  have F_law_fallen := fun_mk (st := s_law_fallen) l_law_fallen c_law_fallen k_law_fallen
  have b_law_fallen := F_law_fallen.binds (ps := ["cells", "sides"]) fun _ _ _ _ _ _ us hl => match us, hl with | [_, _], _ => rfl
  have F_law_word_due := fun_mk (st := s_law_word_due) l_law_word_due c_law_word_due k_law_word_due
  have b_law_word_due := F_law_word_due.binds (ps := ["shape", "cell"]) fun _ _ _ _ _ _ us hl => match us, hl with | [_, _], _ => rfl
  have F_law_asked := fun_mk (st := s_law_asked) l_law_asked c_law_asked k_law_asked
  have b_law_asked := F_law_asked.binds (ps := ["shape", "there"]) fun _ _ _ _ _ _ us hl => match us, hl with | [_, _], _ => rfl
  have F_law_full := fun_mk (st := s_law_full) l_law_full c_law_full k_law_full
  have b_law_full := F_law_full.binds (ps := ["number"]) fun _ _ _ _ _ _ us hl => match us, hl with | [_], _ => rfl
  have F_law := fun_mk (st := s_law) l_law c_law k_law
  have b_law := F_law.binds (ps := ["script"]) fun _ _ _ _ _ _ us hl => match us, hl with | [_], _ => rfl
  have r_AROUND_0 : ∀ R, Rp K R (.ref g_AROUND_0) (wtD [.int (-1), .int (-1)]) := fun R => Rp.wt lw_AROUND_0 rfl rfl (by show 2 ≤ sizeLine; decide) (vs := [.int (-1), .int (-1)]) (.cons ⟨_, rfl⟩ (.cons ⟨_, rfl⟩ .nil)) (.cons (.int _) (.cons (.int _) .nil))
  have r_AROUND_1 : ∀ R, Rp K R (.ref g_AROUND_1) (wtD [.int (-1), .int (0)]) := fun R => Rp.wt lw_AROUND_1 rfl rfl (by show 2 ≤ sizeLine; decide) (vs := [.int (-1), .int (0)]) (.cons ⟨_, rfl⟩ (.cons ⟨_, rfl⟩ .nil)) (.cons (.int _) (.cons (.int _) .nil))
  have r_AROUND_2 : ∀ R, Rp K R (.ref g_AROUND_2) (wtD [.int (-1), .int (1)]) := fun R => Rp.wt lw_AROUND_2 rfl rfl (by show 2 ≤ sizeLine; decide) (vs := [.int (-1), .int (1)]) (.cons ⟨_, rfl⟩ (.cons ⟨_, rfl⟩ .nil)) (.cons (.int _) (.cons (.int _) .nil))
  have r_AROUND_3 : ∀ R, Rp K R (.ref g_AROUND_3) (wtD [.int (0), .int (-1)]) := fun R => Rp.wt lw_AROUND_3 rfl rfl (by show 2 ≤ sizeLine; decide) (vs := [.int (0), .int (-1)]) (.cons ⟨_, rfl⟩ (.cons ⟨_, rfl⟩ .nil)) (.cons (.int _) (.cons (.int _) .nil))
  have r_AROUND_4 : ∀ R, Rp K R (.ref g_AROUND_4) (wtD [.int (0), .int (1)]) := fun R => Rp.wt lw_AROUND_4 rfl rfl (by show 2 ≤ sizeLine; decide) (vs := [.int (0), .int (1)]) (.cons ⟨_, rfl⟩ (.cons ⟨_, rfl⟩ .nil)) (.cons (.int _) (.cons (.int _) .nil))
  have r_AROUND_5 : ∀ R, Rp K R (.ref g_AROUND_5) (wtD [.int (1), .int (-1)]) := fun R => Rp.wt lw_AROUND_5 rfl rfl (by show 2 ≤ sizeLine; decide) (vs := [.int (1), .int (-1)]) (.cons ⟨_, rfl⟩ (.cons ⟨_, rfl⟩ .nil)) (.cons (.int _) (.cons (.int _) .nil))
  have r_AROUND_6 : ∀ R, Rp K R (.ref g_AROUND_6) (wtD [.int (1), .int (0)]) := fun R => Rp.wt lw_AROUND_6 rfl rfl (by show 2 ≤ sizeLine; decide) (vs := [.int (1), .int (0)]) (.cons ⟨_, rfl⟩ (.cons ⟨_, rfl⟩ .nil)) (.cons (.int _) (.cons (.int _) .nil))
  have r_AROUND_7 : ∀ R, Rp K R (.ref g_AROUND_7) (wtD [.int (1), .int (1)]) := fun R => Rp.wt lw_AROUND_7 rfl rfl (by show 2 ≤ sizeLine; decide) (vs := [.int (1), .int (1)]) (.cons ⟨_, rfl⟩ (.cons ⟨_, rfl⟩ .nil)) (.cons (.int _) (.cons (.int _) .nil))
  have r_AROUND : ∀ R, Rp K R (.ref g_AROUND) (wtD [wtD [.int (-1), .int (-1)], wtD [.int (-1), .int (0)], wtD [.int (-1), .int (1)], wtD [.int (0), .int (-1)], wtD [.int (0), .int (1)], wtD [.int (1), .int (-1)], wtD [.int (1), .int (0)], wtD [.int (1), .int (1)]]) := fun R => Rp.wt lw_AROUND rfl rfl (by show 8 ≤ sizeLine; decide) (vs := [.ref g_AROUND_0, .ref g_AROUND_1, .ref g_AROUND_2, .ref g_AROUND_3, .ref g_AROUND_4, .ref g_AROUND_5, .ref g_AROUND_6, .ref g_AROUND_7]) (.cons rfl (.cons rfl (.cons rfl (.cons rfl (.cons rfl (.cons rfl (.cons rfl (.cons rfl .nil)))))))) (.cons (r_AROUND_0 R) (.cons (r_AROUND_1 R) (.cons (r_AROUND_2 R) (.cons (r_AROUND_3 R) (.cons (r_AROUND_4 R) (.cons (r_AROUND_5 R) (.cons (r_AROUND_6 R) (.cons (r_AROUND_7 R) .nil))))))))
  have r_SIDES_0 : ∀ R, Rp K R (.ref g_SIDES_0) (wtD [.int (-1), .int (0)]) := fun R => Rp.wt lw_SIDES_0 rfl rfl (by show 2 ≤ sizeLine; decide) (vs := [.int (-1), .int (0)]) (.cons ⟨_, rfl⟩ (.cons ⟨_, rfl⟩ .nil)) (.cons (.int _) (.cons (.int _) .nil))
  have r_SIDES_1 : ∀ R, Rp K R (.ref g_SIDES_1) (wtD [.int (0), .int (-1)]) := fun R => Rp.wt lw_SIDES_1 rfl rfl (by show 2 ≤ sizeLine; decide) (vs := [.int (0), .int (-1)]) (.cons ⟨_, rfl⟩ (.cons ⟨_, rfl⟩ .nil)) (.cons (.int _) (.cons (.int _) .nil))
  have r_SIDES_2 : ∀ R, Rp K R (.ref g_SIDES_2) (wtD [.int (0), .int (1)]) := fun R => Rp.wt lw_SIDES_2 rfl rfl (by show 2 ≤ sizeLine; decide) (vs := [.int (0), .int (1)]) (.cons ⟨_, rfl⟩ (.cons ⟨_, rfl⟩ .nil)) (.cons (.int _) (.cons (.int _) .nil))
  have r_SIDES_3 : ∀ R, Rp K R (.ref g_SIDES_3) (wtD [.int (1), .int (0)]) := fun R => Rp.wt lw_SIDES_3 rfl rfl (by show 2 ≤ sizeLine; decide) (vs := [.int (1), .int (0)]) (.cons ⟨_, rfl⟩ (.cons ⟨_, rfl⟩ .nil)) (.cons (.int _) (.cons (.int _) .nil))
  have r_SIDES : ∀ R, Rp K R (.ref g_SIDES) (wtD [wtD [.int (-1), .int (0)], wtD [.int (0), .int (-1)], wtD [.int (0), .int (1)], wtD [.int (1), .int (0)]]) := fun R => Rp.wt lw_SIDES rfl rfl (by show 4 ≤ sizeLine; decide) (vs := [.ref g_SIDES_0, .ref g_SIDES_1, .ref g_SIDES_2, .ref g_SIDES_3]) (.cons rfl (.cons rfl (.cons rfl (.cons rfl .nil)))) (.cons (r_SIDES_0 R) (.cons (r_SIDES_1 R) (.cons (r_SIDES_2 R) (.cons (r_SIDES_3 R) .nil))))
  have T : Txt K mg := ⟨f_law_base, _, F_law_base, PySem.W.mg_of X G a_law_base, b_law_base, f_law_kept, _, F_law_kept, PySem.W.mg_of X G a_law_kept, b_law_kept, f_law_board, _, F_law_board, PySem.W.mg_of X G a_law_board, b_law_board, f_look_finite, _, F_look_finite, PySem.W.mg_of X G a_look_finite, b_look_finite, f_noted, _, F_noted, PySem.W.mg_of X G a_noted, b_noted, f_flooded, _, F_flooded, PySem.W.mg_of X G a_flooded, b_flooded, f_near_cells, _, F_near_cells, PySem.W.mg_of X G a_near_cells, b_near_cells, f_why_around, _, F_why_around, PySem.W.mg_of X G a_why_around, b_why_around, f_loose_cells, _, F_loose_cells, PySem.W.mg_of X G a_loose_cells, b_loose_cells, f_law_cell, _, F_law_cell, PySem.W.mg_of X G a_law_cell, b_law_cell, f_law_deal, _, F_law_deal, PySem.W.mg_of X G a_law_deal, b_law_deal, f_law_has, _, F_law_has, PySem.W.mg_of X G a_law_has, b_law_has, f_why_loose, _, F_why_loose, PySem.W.mg_of X G a_why_loose, b_why_loose, f_is_loose, _, F_is_loose, PySem.W.mg_of X G a_is_loose, b_is_loose, f_may_come, _, F_may_come, PySem.W.mg_of X G a_may_come, b_may_come, f_law_around, _, F_law_around, PySem.W.mg_of X G a_law_around, b_law_around, f_law_fallen, _, F_law_fallen, PySem.W.mg_of X G a_law_fallen, b_law_fallen, f_law_word_due, _, F_law_word_due, PySem.W.mg_of X G a_law_word_due, b_law_word_due, f_law_asked, _, F_law_asked, PySem.W.mg_of X G a_law_asked, b_law_asked, f_law_full, _, F_law_full, PySem.W.mg_of X G a_law_full, b_law_full, fa, _, F_law, PySem.W.mg_of X G a_law, b_law, PySem.W.mg_none_of X G z_bool, PySem.W.mg_none_of X G z_divmod, PySem.W.mg_none_of X G z_int, PySem.W.mg_none_of X G z_isinstance, PySem.W.mg_none_of X G z_len, PySem.W.mg_none_of X G z_list, PySem.W.mg_none_of X G z_max, PySem.W.mg_none_of X G z_min, PySem.W.mg_none_of X G z_range, PySem.W.mg_none_of X G z_sorted, PySem.W.mg_none_of X G z_tuple, _, PySem.W.mg_of X G n_AROUND, r_AROUND, _, PySem.W.mg_of X G n_SIDES, r_SIDES⟩
  exact ⟨PySem.W.fnOf "law" "law" (defArgs s_law) (defBody s_law) (defScope s_law) .none kV_law dc_law pm_law an_law cd_law ct_law, fun s v => .of_eq rfl, fun base _ _ => ok_law ⟨f_law_base, _, F_law_base, PySem.W.mg_of X G a_law_base, b_law_base, f_law_kept, _, F_law_kept, PySem.W.mg_of X G a_law_kept, b_law_kept, f_law_board, _, F_law_board, PySem.W.mg_of X G a_law_board, b_law_board, f_look_finite, _, F_look_finite, PySem.W.mg_of X G a_look_finite, b_look_finite, f_noted, _, F_noted, PySem.W.mg_of X G a_noted, b_noted, f_flooded, _, F_flooded, PySem.W.mg_of X G a_flooded, b_flooded, f_near_cells, _, F_near_cells, PySem.W.mg_of X G a_near_cells, b_near_cells, f_why_around, _, F_why_around, PySem.W.mg_of X G a_why_around, b_why_around, f_loose_cells, _, F_loose_cells, PySem.W.mg_of X G a_loose_cells, b_loose_cells, f_law_cell, _, F_law_cell, PySem.W.mg_of X G a_law_cell, b_law_cell, f_law_deal, _, F_law_deal, PySem.W.mg_of X G a_law_deal, b_law_deal, f_law_has, _, F_law_has, PySem.W.mg_of X G a_law_has, b_law_has, f_why_loose, _, F_why_loose, PySem.W.mg_of X G a_why_loose, b_why_loose, f_is_loose, _, F_is_loose, PySem.W.mg_of X G a_is_loose, b_is_loose, f_may_come, _, F_may_come, PySem.W.mg_of X G a_may_come, b_may_come, f_law_around, _, F_law_around, PySem.W.mg_of X G a_law_around, b_law_around, f_law_fallen, _, F_law_fallen, PySem.W.mg_of X G a_law_fallen, b_law_fallen, f_law_word_due, _, F_law_word_due, PySem.W.mg_of X G a_law_word_due, b_law_word_due, f_law_asked, _, F_law_asked, PySem.W.mg_of X G a_law_asked, b_law_asked, f_law_full, _, F_law_full, PySem.W.mg_of X G a_law_full, b_law_full, fa, _, F_law, PySem.W.mg_of X G a_law, b_law, PySem.W.mg_none_of X G z_bool, PySem.W.mg_none_of X G z_divmod, PySem.W.mg_none_of X G z_int, PySem.W.mg_none_of X G z_isinstance, PySem.W.mg_none_of X G z_len, PySem.W.mg_none_of X G z_list, PySem.W.mg_none_of X G z_max, PySem.W.mg_none_of X G z_min, PySem.W.mg_none_of X G z_range, PySem.W.mg_none_of X G z_sorted, PySem.W.mg_none_of X G z_tuple, _, PySem.W.mg_of X G n_AROUND, r_AROUND, _, PySem.W.mg_of X G n_SIDES, r_SIDES⟩⟩
end K73
open PySem PySem.W PyProof.Rows in
set_option maxRecDepth 100000 in
set_option maxHeartbeats 0 in
theorem PySem.Challenge.cw_edgemoss_k73_loose_cells_and_comers_holds : PySem.Challenge.rw_edgemoss_k73_loose_cells_and_comers.Holds := by
  w_on; o_law; k_head; (case hw => w_witness2)
  k_fill
  refine E3.walk_e3 (l := PySem.Challenge.rw_edgemoss_k73_loose_cells_and_comers) (k := 7) (FL := K73.D_law) rfl rfl ⟨rfl, by decide, by decide⟩ (fun w h Y => PySem.W.kIn_of Y) ?F K73.law_true
  case F =>
    intro w mg fa h KX G hmg
    refine' K73.all_mk KX G hmg ?a_law_base ?l_law_base ?c_law_base ?k_law_base ?a_law_kept ?l_law_kept ?c_law_kept ?k_law_kept ?a_law_board ?l_law_board ?c_law_board ?k_law_board ?a_look_finite ?l_look_finite ?c_look_finite ?k_look_finite ?a_noted ?l_noted ?c_noted ?k_noted ?a_flooded ?l_flooded ?c_flooded ?k_flooded ?a_near_cells ?l_near_cells ?c_near_cells ?k_near_cells ?a_why_around ?l_why_around ?c_why_around ?k_why_around ?a_loose_cells ?l_loose_cells ?c_loose_cells ?k_loose_cells ?a_law_cell ?l_law_cell ?c_law_cell ?k_law_cell ?a_law_deal ?l_law_deal ?c_law_deal ?k_law_deal ?a_law_has ?l_law_has ?c_law_has ?k_law_has ?a_why_loose ?l_why_loose ?c_why_loose ?k_why_loose ?a_is_loose ?l_is_loose ?c_is_loose ?k_is_loose ?a_may_come ?l_may_come ?c_may_come ?k_may_come ?a_law_around ?l_law_around ?c_law_around ?k_law_around ?a_law_fallen ?l_law_fallen ?c_law_fallen ?k_law_fallen ?a_law_word_due ?l_law_word_due ?c_law_word_due ?k_law_word_due ?a_law_asked ?l_law_asked ?c_law_asked ?k_law_asked ?a_law_full ?l_law_full ?c_law_full ?k_law_full ?a_law ?l_law ?c_law ?k_law ?z_bool ?z_divmod ?z_int ?z_isinstance ?z_len ?z_list ?z_max ?z_min ?z_range ?z_sorted ?z_tuple ?n_AROUND ?lw_AROUND ?lw_AROUND_0 ?lw_AROUND_1 ?lw_AROUND_2 ?lw_AROUND_3 ?lw_AROUND_4 ?lw_AROUND_5 ?lw_AROUND_6 ?lw_AROUND_7 ?n_SIDES ?lw_SIDES ?lw_SIDES_0 ?lw_SIDES_1 ?lw_SIDES_2 ?lw_SIDES_3
    (case a_law_base => k_is)
    (case l_law_base => k_is)
    (case c_law_base => k_is)
    (case k_law_base => k_is)
    (case a_law_kept => k_is)
    (case l_law_kept => k_is)
    (case c_law_kept => k_is)
    (case k_law_kept => k_is)
    (case a_law_board => k_is)
    (case l_law_board => k_is)
    (case c_law_board => k_is)
    (case k_law_board => k_is)
    (case a_look_finite => k_is)
    (case l_look_finite => k_is)
    (case c_look_finite => k_is)
    (case k_look_finite => k_is)
    (case a_noted => k_is)
    (case l_noted => k_is)
    (case c_noted => k_is)
    (case k_noted => k_is)
    (case a_flooded => k_is)
    (case l_flooded => k_is)
    (case c_flooded => k_is)
    (case k_flooded => k_is)
    (case a_near_cells => k_is)
    (case l_near_cells => k_is)
    (case c_near_cells => k_is)
    (case k_near_cells => k_is)
    (case a_why_around => k_is)
    (case l_why_around => k_is)
    (case c_why_around => k_is)
    (case k_why_around => k_is)
    (case a_loose_cells => k_is)
    (case l_loose_cells => k_is)
    (case c_loose_cells => k_is)
    (case k_loose_cells => k_is)
    (case a_law_cell => k_is)
    (case l_law_cell => k_is)
    (case c_law_cell => k_is)
    (case k_law_cell => k_is)
    (case a_law_deal => k_is)
    (case l_law_deal => k_is)
    (case c_law_deal => k_is)
    (case k_law_deal => k_is)
    (case a_law_has => k_is)
    (case l_law_has => k_is)
    (case c_law_has => k_is)
    (case k_law_has => k_is)
    (case a_why_loose => k_is)
    (case l_why_loose => k_is)
    (case c_why_loose => k_is)
    (case k_why_loose => k_is)
    (case a_is_loose => k_is)
    (case l_is_loose => k_is)
    (case c_is_loose => k_is)
    (case k_is_loose => k_is)
    (case a_may_come => k_is)
    (case l_may_come => k_is)
    (case c_may_come => k_is)
    (case k_may_come => k_is)
    (case a_law_around => k_is)
    (case l_law_around => k_is)
    (case c_law_around => k_is)
    (case k_law_around => k_is)
    (case a_law_fallen => k_is)
    (case l_law_fallen => k_is)
    (case c_law_fallen => k_is)
    (case k_law_fallen => k_is)
    (case a_law_word_due => k_is)
    (case l_law_word_due => k_is)
    (case c_law_word_due => k_is)
    (case k_law_word_due => k_is)
    (case a_law_asked => k_is)
    (case l_law_asked => k_is)
    (case c_law_asked => k_is)
    (case k_law_asked => k_is)
    (case a_law_full => k_is)
    (case l_law_full => k_is)
    (case c_law_full => k_is)
    (case k_law_full => k_is)
    (case a_law => k_is)
    (case l_law => k_is)
    (case c_law => k_is)
    (case k_law => k_is)
    (case z_bool => k_is)
    (case z_divmod => k_is)
    (case z_int => k_is)
    (case z_isinstance => k_is)
    (case z_len => k_is)
    (case z_list => k_is)
    (case z_max => k_is)
    (case z_min => k_is)
    (case z_range => k_is)
    (case z_sorted => k_is)
    (case z_tuple => k_is)
    (case n_AROUND => k_is)
    (case lw_AROUND => k_is)
    (case lw_AROUND_0 => k_is)
    (case lw_AROUND_1 => k_is)
    (case lw_AROUND_2 => k_is)
    (case lw_AROUND_3 => k_is)
    (case lw_AROUND_4 => k_is)
    (case lw_AROUND_5 => k_is)
    (case lw_AROUND_6 => k_is)
    (case lw_AROUND_7 => k_is)
    (case n_SIDES => k_is)
    (case lw_SIDES => k_is)
    (case lw_SIDES_0 => k_is)
    (case lw_SIDES_1 => k_is)
    (case lw_SIDES_2 => k_is)
    (case lw_SIDES_3 => k_is)

