import PyProof.Rows.All
import Wide.All
import OpenK.AllK
import Wide.FinOn
import HandS.ForMost
import PyProof.EqKinds
import KE.KEqDict
import KE.KEqNest
import HandS.Walk
import HandS.Zip
import HandS.IsInst
import HandS.TupAny
import HandS.TupMul
import HandS.Wide
import HandS.Defaults
import HandS.Base
import HandS.Call
import HandS.Ends
import HandS.More
import HandS.Words
import HandS.WordsExc
import HandS.Head0
import HandS.Head1
import HandS.Head2
import HandS.HeadEnd
import HandS.HeadHook1
import HandS.HeadHook2
import Lean
import PySem.Challenge.RW_onekink_k02_numbers_and_vectors
set_option Elab.async false
set_option linter.all false
set_option maxRecDepth 100000
set_option autoImplicit false
set_option maxHeartbeats 4000000
namespace DLQ
open PySem PySem.SeqAt PySem.Spec PyProof.Rows
open AutoSeq1 (wpAny_loadPart')
open MeetsSeq
theorem dict_eq_declines_tuple (l b : Addr) (es : Array DictEntry) (ep : Nat) (items2 : Array Value) (n2 : Nat) (dd dd2 : Option Addr) (sl sl2 : Array (Option Value)) :
    Meets (Builtin.«dict.__eq__» ⟨[.ref l, .ref b], []⟩) (fun _ R s => s.heap.get? l = some { cls := .type "dict", dict := dd, data := .dict es ep, slots := sl } ∧ s.heap.get? b = some { cls := .type "tuple", dict := dd2, data := .seq items2 n2, slots := sl2 } ∧ R (.ok (.ret .notImplemented)) s) :=
  .of_wp fun prog w A R s h => by obtain ⟨hp, g, d, tk, os⟩ := s; obtain ⟨hl, hb, h⟩ := h; have f1 := F.sub_tuple_dict; wp_walk using wpAny_loadPart' hl, wpAny_loadPart' hb; exact ⟨_, rfl, h⟩
theorem tuple_eq_declines_dict (l b : Addr) (es : Array DictEntry) (ep : Nat) (items2 : Array Value) (n2 : Nat) (dd dd2 : Option Addr) (sl sl2 : Array (Option Value)) :
    Meets (Builtin.«tuple.__eq__» ⟨[.ref l, .ref b], []⟩) (fun _ R s => s.heap.get? b = some { cls := .type "dict", dict := dd, data := .dict es ep, slots := sl } ∧ s.heap.get? l = some { cls := .type "tuple", dict := dd2, data := .seq items2 n2, slots := sl2 } ∧ R (.ok (.ret .notImplemented)) s) :=
  .of_wp fun prog w A R s h => by obtain ⟨hp, g, d, tk, os⟩ := s; obtain ⟨hl, hb, h⟩ := h; have f1 := F.sub_dict_tuple; wp_walk using wpAny_loadPart' hl, wpAny_loadPart' hb; exact ⟨_, rfl, h⟩
section
variable {A : Around} {s : Shared}
theorem rc_dict_tuple {l b : Addr} {o : Obj} {es : Array DictEntry} {ep : Nat} {items2 : Array Value} (ho : s.heap.get? l = some o) (hc : o.cls = .type "dict") (hd : o.data = .dict es ep) (hb : s.heap.IsTuple b items2) (hu : A.units < cLine) : RcAt A s (.ref l) (.ref b) false := fun prog w E Q h => by
  obtain ⟨⟨cls2, dd2, data2, sl2⟩, ho2, hc2, n2, hd2⟩ := id hb
  obtain ⟨cls, dd, data, sl⟩ := o
  simp only at hc hd hc2 hd2
  subst hc hd hc2 hd2
  have hne : l ≠ b := fun e => by
    subst e
    rw [ho] at ho2
    have z := congrArg Obj.cls (Option.some.inj ho2)
    exact absurd z (by simp)
  exact (rc_eq_decline_or (k := false) ⟨_, ho, rfl⟩ ⟨_, ho2, rfl⟩ (by decide) F.sub_tuple_dict F.slot_dict_eq F.slot_tuple_eq_refl
    (fun _ hq => call_meets F.slot_dict_eq ⟨_, ho, rfl⟩ F.entry_dict_eq (F.args_dict_eq_2 _ _) (dict_eq_declines_tuple l b es ep items2 n2 dd dd2 sl sl2) ⟨ho, ho2, hq⟩)
    (fun _ hq => call_meets F.slot_tuple_eq_refl ⟨_, ho2, rfl⟩ F.entry_tuple_eq (F.args_tuple_eq_2 _ _) (tuple_eq_declines_dict b l es ep items2 n2 dd dd2 sl sl2) ⟨ho, ho2, hq⟩)
    (fun _ hq => wpAny_isSame_ref_other hne ho ho2 (by simp) hq) (.inr hu) h)
end
section
open L2
variable {X : Cx}
def rEqDT (K : PySem.W.Frag) : R2 := fun x y H Q => ∃ a b kvs xs, x = .ref a ∧ y = .ref b ∧ H a = some (.dK kvs) ∧ SqT K H b xs ∧ Q (.bl false) H
theorem op_eqDT (hu : X.A.units + 64 < cLine) : OpR X (compareOp .Eq) (rEqDT X.K) := by
  intro pins s σ H x y v u Q I rx ry h
  obtain ⟨a, b, kvs, xs, rfl, rfl, ha, hb, q⟩ := h
  cases rx
  cases ry
  obtain ⟨its, rv, p, _⟩ := I.tuple hb
  obtain ⟨_, _, vs, _, o, es, ep, h1, h2, h3, _⟩ := (show ObjOk X.prog X.w H s.heap a (.dK kvs) from I.hok a _ ha)
  exact rc_dict_tuple h1 h2.1 h3 (show s.heap.IsTuple b its.toArray from p) (by omega) X.prog X.w _ _ ⟨.bl false, H, I, rfl, q⟩
end
end DLQ
set_option maxHeartbeats 4000000
/-! DL: a layer of immutable data over the hand layer. -/
namespace DL
open PySem PySem.Spec PyProof.Rows L2

/-- data, as trees -/
inductive D where
  | non | bl (b : Bool) | int (i : Int) | str (x : Str)
  | tup (ds : List D) | lst (ds : List D) | dct (kvs : List (Key × D))
  | bag

mutual
inductive Rd (K : PySem.W.Frag) (B : Addr) (R : Hp) : V → D → Prop
  | non : Rd K B R .non .non
  | bl (b : Bool) : Rd K B R (.bl b) (.bl b)
  | int (i : Int) : Rd K B R (.int i) (.int i)
  | str (x : Str) : Rd K B R (.str x) (.str x)
  | tup {a : Addr} {xs : List V} {ds : List D} : SqT K R a xs → RdAll K B R xs ds → Rd K B R (.ref a) (.tup ds)
  | lst {a : Addr} {xs : List V} {ds : List D} : R a = some (.lst xs) → RdAll K B R xs ds → Rd K B R (.ref a) (.lst ds)
  | dct {a : Addr} {kvs : List (Key × V)} {ds : List (Key × D)} : R a = some (.dK kvs) → RdKV K B R kvs ds → Rd K B R (.ref a) (.dct ds)
  | bag : Rd K B R (.ref B) .bag
inductive RdAll (K : PySem.W.Frag) (B : Addr) (R : Hp) : List V → List D → Prop
  | nil : RdAll K B R [] []
  | cons {v : V} {vs : List V} {d : D} {ds : List D} : Rd K B R v d → RdAll K B R vs ds → RdAll K B R (v :: vs) (d :: ds)
inductive RdKV (K : PySem.W.Frag) (B : Addr) (R : Hp) : List (Key × V) → List (Key × D) → Prop
  | nil : RdKV K B R [] []
  | cons {k : Key} {v : V} {vs : List (Key × V)} {d : D} {ds : List (Key × D)} : Rd K B R v d → RdKV K B R vs ds → RdKV K B R ((k, v) :: vs) ((k, d) :: ds)
end

theorem sqT_mono {K : PySem.W.Frag} {H H' : Hp} {a : Addr} {xs : List V} (e : Same H H') (h : SqT K H a xs) : SqT K H' a xs := by
  rcases h with (h | ⟨o, h⟩) | h
  · exact .inl (.inl (e _ _ h))
  · exact .inl (.inr ⟨o, e _ _ h⟩)
  · exact .inr h

section
variable {K : PySem.W.Frag} {B : Addr} {R R' : Hp}
mutual
theorem Rd.mono (e : Same R R') : ∀ {v : V} {d : D}, Rd K B R v d → Rd K B R' v d
  | _, _, .non => .non
  | _, _, .bl b => .bl b
  | _, _, .int i => .int i
  | _, _, .str x => .str x
  | _, _, .tup s q => .tup (sqT_mono e s) (RdAll.mono e q)
  | _, _, .lst s q => .lst (e _ _ s) (RdAll.mono e q)
  | _, _, .dct s q => .dct (e _ _ s) (RdKV.mono e q)
  | _, _, .bag => .bag
theorem RdAll.mono (e : Same R R') : ∀ {v : List V} {d : List D}, RdAll K B R v d → RdAll K B R' v d
  | _, _, .nil => .nil
  | _, _, .cons a r => .cons (Rd.mono e a) (RdAll.mono e r)
theorem RdKV.mono (e : Same R R') : ∀ {v : List (Key × V)} {d : List (Key × D)}, RdKV K B R v d → RdKV K B R' v d
  | _, _, .nil => .nil
  | _, _, .cons a r => .cons (Rd.mono e a) (RdKV.mono e r)
end
theorem RdAll.length : ∀ {v : List V} {d : List D}, RdAll K B R v d → v.length = d.length
  | _, _, .nil => rfl
  | _, _, .cons _ r => by simp [RdAll.length r]
theorem RdAll.append : ∀ {v v' : List V} {d d' : List D}, RdAll K B R v d → RdAll K B R v' d' → RdAll K B R (v ++ v') (d ++ d')
  | _, _, _, _, .nil, r => r
  | _, _, _, _, .cons a r, s => .cons a (RdAll.append r s)
theorem RdAll.take : ∀ {v : List V} {d : List D} (n : Nat), RdAll K B R v d → RdAll K B R (v.take n) (d.take n)
  | _, _, 0, _ => by simp; exact .nil
  | _, _, n + 1, .nil => by simp; exact .nil
  | _, _, n + 1, .cons a r => .cons a (RdAll.take n r)
theorem RdAll.drop : ∀ {v : List V} {d : List D} (n : Nat), RdAll K B R v d → RdAll K B R (v.drop n) (d.drop n)
  | _, _, 0, r => r
  | _, _, n + 1, .nil => .nil
  | _, _, n + 1, .cons a r => RdAll.drop n r
theorem RdAll.get : ∀ {v : List V} {d : List D} {i : Nat} {x : V}, RdAll K B R v d → v[i]? = some x → ∃ y, d[i]? = some y ∧ Rd K B R x y
  | _, _, _, _, .nil, e => by simp at e
  | _, _, 0, _, .cons a _, e => by simp at e; subst e; exact ⟨_, rfl, a⟩
  | _, _, i + 1, x, .cons _ r, e => by
    obtain ⟨y, h1, h2⟩ := RdAll.get (i := i) (x := x) r (by simpa using e)
    exact ⟨y, by simpa using h1, h2⟩
theorem RdAll.get' : ∀ {v : List V} {d : List D} {i : Nat} {y : D}, RdAll K B R v d → d[i]? = some y → ∃ x, v[i]? = some x ∧ Rd K B R x y
  | _, _, _, _, .nil, e => by simp at e
  | _, _, 0, _, .cons a _, e => by simp at e; subst e; exact ⟨_, rfl, a⟩
  | _, _, i + 1, y, .cons _ r, e => by
    obtain ⟨x, h1, h2⟩ := RdAll.get' (i := i) (y := y) r (by simpa using e)
    exact ⟨x, by simpa using h1, h2⟩
theorem RdAll.reverse {v : List V} {d : List D} (h : RdAll K B R v d) : RdAll K B R v.reverse d.reverse := by
  induction v generalizing d with
  | nil => cases h; exact .nil
  | cons x xs ih => cases h with | cons a r => simpa using (ih r).append (.cons a .nil)
theorem RdAll.ints : ∀ {v : List V} {ns : List Int}, RdAll K B R v (ns.map D.int) → v = ns.map V.int
  | _, [], h => by cases h; rfl
  | _, n :: ns, h => by
    cases h with
    | cons a r => cases a; rw [RdAll.ints r]; rfl
theorem RdAll.bls : ∀ {v : List V} {ns : List Bool}, RdAll K B R v (ns.map D.bl) → v = ns.map V.bl
  | _, [], h => by cases h; rfl
  | _, n :: ns, h => by
    cases h with
    | cons a r => cases a; rw [RdAll.bls r]; rfl
theorem RdAll.of_ints : ∀ (ns : List Int), RdAll K B R (ns.map V.int) (ns.map D.int)
  | [] => .nil
  | n :: ns => .cons (.int n) (RdAll.of_ints ns)
end

/-- the bag: a list of the numbers, the place, the cell, the seed, the count -/
def BagOk (B : Addr) (R H : Hp) : Prop := R B = none ∧ ∃ (L : Addr) (ns : List Int) (i c m k : Int),
  H B = some (.lst [.ref L, .int i, .int c, .int m, .int k]) ∧ R L = some (.lst (ns.map V.int)) ∧ 0 ≤ i ∧ 0 ≤ c ∧ 0 ≤ m ∧ m < 2147483353

/-- from the state (R, H) to the state (R', H'): the frozen part grows, the rest but the bag stays -/
structure Nx (B : Addr) (R H R' H' : Hp) : Prop where
  r : Same R R'
  s : Same R' H'
  h : ∀ b o, H b = some o → b ≠ B → H' b = some o
  n : ∀ b, H b ≠ none → R' b = R b
  l : H B ≠ none → H' B ≠ none
  b : BagOk B R' H'
theorem Nx.refl {B : Addr} {R H : Hp} (s : Same R H) (b : BagOk B R H) : Nx B R H R H := ⟨fun _ _ h => h, s, fun _ _ h _ => h, fun _ _ => rfl, id, b⟩
theorem Nx.trans {B : Addr} {R H R1 H1 R2 H2 : Hp} (x : Nx B R H R1 H1) (y : Nx B R1 H1 R2 H2) : Nx B R H R2 H2 :=
  ⟨x.r.trans y.r, y.s, fun b o h hb => y.h b o (x.h b o h hb) hb, fun b h => by
    have h1 : H1 b ≠ none := by
      by_cases e : b = B
      · subst e; exact x.l h
      · cases q : H b with
        | none => exact absurd q h
        | some o => rw [x.h b o q e]; exact fun z => nomatch z
    exact (y.n b h1).trans (x.n b h), fun h => y.l (x.l h), y.b⟩
theorem bag_some {B : Addr} {R H : Hp} (b : BagOk B R H) : H B ≠ none := by
  obtain ⟨_, L, ns, i, c, m, k, h, _⟩ := b
  rw [h]; exact fun z => nomatch z
/-- a new frozen object -/
theorem Nx.new {B : Addr} {R H : Hp} (s : Same R H) (b : BagOk B R H) {p : Addr} (hp : H p = none) (o : HO) : Nx B R H (upd R p o) (upd H p o) := by
  have rp : R p = none := by
    cases q : R p with
    | none => rfl
    | some u => rw [s p u q] at hp; cases hp
  have pB : B ≠ p := fun e => bag_some b (by rw [e]; exact hp)
  refine ⟨fun c u h => ?_, fun c u h => ?_, fun c u h hc => ?_, fun c h => ?_, fun h => ?_, ?_⟩
  · have : c ≠ p := ne_of_none h rp
    rw [upd_ne this]; exact h
  · by_cases e : c = p
    · subst e; rw [upd_same] at h ⊢; exact h
    · rw [upd_ne e] at h ⊢; exact s c u h
  · rw [upd_ne (ne_of_none h hp)]; exact h
  · have : c ≠ p := fun e => h (by rw [e]; exact hp)
    rw [upd_ne this]
  · rw [upd_ne pB]; exact h
  · obtain ⟨hB, L, ns, i, c, m, k, h1, h2, h3⟩ := b
    refine ⟨by rw [upd_ne pB]; exact hB, L, ns, i, c, m, k, by rw [upd_ne pB]; exact h1, ?_, h3⟩
    rw [upd_ne (ne_of_none h2 rp)]; exact h2
theorem fr_none {R H : Hp} (s : Same R H) {p : Addr} (hp : H p = none) : R p = none := s.free hp

/-- a slot: unknown, data, a list of one's own -/
inductive Sl where
  | no | dat (d : D) | own (ds : List D)
/-- what a slot holds -/
def SlOk (K : PySem.W.Frag) (B : Addr) (H0 R H : Hp) (v : Option (Option V)) : Sl → Prop
  | .no => True
  | .dat d => ∃ x, v = some (some x) ∧ Rd K B R x d
  | .own ds => ∃ a vs, v = some (some (.ref a)) ∧ H0 a = none ∧ R a = none ∧ a ≠ B ∧ H a = some (.lst vs) ∧ RdAll K B R vs ds
structure Ok (K : PySem.W.Frag) (B : Addr) (R0 H0 R H : Hp) (σ : L2.St) (ρ : List Sl) : Prop where
  sub : Same R H
  bag : BagOk B R H
  len : σ.length = ρ.length
  sl : ∀ (i : Nat) (s : Sl), ρ[i]? = some s → SlOk K B H0 R H σ[i]? s
  apart : ∀ (i j : Nat) (ds es : List D) (a : Addr), i ≠ j → ρ[i]? = some (.own ds) → ρ[j]? = some (.own es) → σ[i]? = some (some (.ref a)) → σ[j]? ≠ some (some (.ref a))
  ext : Nx B R0 H0 R H
section
variable {K : PySem.W.Frag} {B : Addr} {R0 H0 R H R' H' : Hp} {σ : L2.St} {ρ : List Sl}
theorem Ok.nx (o : Ok K B R0 H0 R H σ ρ) (x : Nx B R H R' H') : Ok K B R0 H0 R' H' σ ρ := by
  refine ⟨x.s, x.b, o.len, fun i s h => ?_, o.apart, o.ext.trans x⟩
  have q := o.sl i s h
  cases s with
  | no => trivial
  | dat d => obtain ⟨v, e, r⟩ := q; exact ⟨v, e, r.mono x.r⟩
  | own ds =>
    obtain ⟨a, vs, e, h0, r, ab, h1, q⟩ := q
    exact ⟨a, vs, e, h0, by rw [x.n a (by rw [h1]; exact fun z => nomatch z)]; exact r, ab, x.h a _ h1 ab, q.mono x.r⟩
theorem Ok.set (o : Ok K B R0 H0 R H σ ρ) (i : Nat) {v : V} {d : D} (r : Rd K B R v d) : Ok K B R0 H0 R H (σ.set i (some v)) (ρ.set i (.dat d)) := by
  refine ⟨o.sub, o.bag, by simp [o.len], fun j s h => ?_, fun j l ds es a hj h1 h2 h3 => ?_, o.ext⟩
  · by_cases e : i = j
    · subst e
      by_cases hl : i < ρ.length
      · rw [List.getElem?_set_self hl] at h
        cases h
        rw [List.getElem?_set_self (by rw [o.len]; exact hl)]
        exact ⟨v, rfl, r⟩
      · rw [List.getElem?_eq_none (by simpa using hl)] at h; cases h
    · rw [List.getElem?_set_ne e] at h ⊢
      exact o.sl j s h
  · have e1 : i ≠ j := by
      intro e; subst e
      by_cases hl : i < ρ.length
      · rw [List.getElem?_set_self hl] at h1; cases h1
      · rw [List.getElem?_eq_none (by simpa using hl)] at h1; cases h1
    have e2 : i ≠ l := by
      intro e; subst e
      by_cases hl : i < ρ.length
      · rw [List.getElem?_set_self hl] at h2; cases h2
      · rw [List.getElem?_eq_none (by simpa using hl)] at h2; cases h2
    rw [List.getElem?_set_ne e1] at h1 h3
    rw [List.getElem?_set_ne e2] at h2 ⊢
    exact o.apart j l ds es a hj h1 h2 h3
theorem Ok.forget (o : Ok K B R0 H0 R H σ ρ) (i : Nat) (v : Option V) : Ok K B R0 H0 R H (σ.set i v) (ρ.set i .no) := by
  refine ⟨o.sub, o.bag, by simp [o.len], fun j s h => ?_, fun j l ds es a hj h1 h2 h3 => ?_, o.ext⟩
  · by_cases e : i = j
    · subst e
      by_cases hl : i < ρ.length
      · rw [List.getElem?_set_self hl] at h
        cases h
        trivial
      · rw [List.getElem?_eq_none (by simpa using hl)] at h; cases h
    · rw [List.getElem?_set_ne e] at h ⊢
      exact o.sl j s h
  · have e1 : i ≠ j := by
      intro e; subst e
      by_cases hl : i < ρ.length
      · rw [List.getElem?_set_self hl] at h1; cases h1
      · rw [List.getElem?_eq_none (by simpa using hl)] at h1; cases h1
    have e2 : i ≠ l := by
      intro e; subst e
      by_cases hl : i < ρ.length
      · rw [List.getElem?_set_self hl] at h2; cases h2
      · rw [List.getElem?_eq_none (by simpa using hl)] at h2; cases h2
    rw [List.getElem?_set_ne e1] at h1 h3
    rw [List.getElem?_set_ne e2] at h2 ⊢
    exact o.apart j l ds es a hj h1 h2 h3
def wipeD (ρ : List Sl) : List Nat → List Sl
  | [] => ρ
  | v :: vs => (wipeD ρ vs).set v .no
theorem Ok.wipe (o : Ok K B R0 H0 R H σ ρ) : ∀ vs : List Nat, Ok K B R0 H0 R H (wipe σ vs) (wipeD ρ vs)
  | [] => o
  | v :: vs => (Ok.wipe o vs).forget v none
end
end DL
set_option maxHeartbeats 4000000
/-! DL: the terms, what they mean over data, how the text is held against them. -/
namespace DL
open PySem PySem.Spec PyProof.Rows L2

/-! ### data -/
mutual
def eqD : D → D → Bool
  | .non, .non => true
  | .bl a, .bl b => a == b
  | .bl a, .int j => (if a then 1 else 0) == j
  | .int i, .bl b => i == (if b then 1 else 0)
  | .int i, .int j => i == j
  | .str x, .str y => x == y
  | .lst xs, .lst ys => eqDs xs ys
  | .tup xs, .tup ys => eqDs xs ys
  | _, _ => false
def eqDs : List D → List D → Bool
  | [], [] => true
  | x :: xs, y :: ys => eqD x y && eqDs xs ys
  | _, _ => false
end
mutual
/-- == is served: no dict in it, texts of a fair length -/
def layD : D → Bool
  | .non | .bl _ | .int _ => true
  | .str x => PySem.PyData.strOk x
  | .lst xs | .tup xs => layDs xs
  | _ => false
def layDs : List D → Bool
  | [] => true
  | x :: xs => layD x && layDs xs
end
mutual
def depD : D → Nat
  | .lst xs | .tup xs => depDs xs + 1
  | _ => 0
def depDs : List D → Nat
  | [] => 0
  | x :: xs => max (depD x) (depDs xs)
end
def truD : D → (Bool → Prop) → Prop
  | .non, Q => Q false
  | .bl b, Q => Q b
  | .int i, Q => Q (i != 0)
  | .str y, Q => y.length ≤ sizeLine ∧ Q ((y.length : Int) != 0)
  | .lst xs, Q => Q (!xs.isEmpty)
  | .tup xs, Q => Q (!xs.isEmpty)
  | .dct xs, Q => Q (!xs.isEmpty)
  | .bag, _ => False

/-- either of two, by a truth value -/
def iteP : Bool → Prop → Prop → Prop
  | true, A, _ => A
  | false, _, B => B
theorem iteP_true {A B : Prop} : iteP true A B = A := rfl
theorem iteP_false {A B : Prop} : iteP false A B = B := rfl
theorem iteP_of {c : Bool} {A B : Prop} (h1 : c = true → A) (h2 : c = false → B) : iteP c A B := by
  cases c with
  | true => exact h1 rfl
  | false => exact h2 rfl
theorem iteP_t {c : Bool} {A B : Prop} (h : iteP c A B) (e : c = true) : A := by subst e; exact h
theorem iteP_f {c : Bool} {A B : Prop} (h : iteP c A B) (e : c = false) : B := by subst e; exact h
inductive Bop where
  | add | sub | mul | fdiv | mod | pow
  deriving DecidableEq
inductive Cop where
  | eq | ne | lt | le | gt | ge | isN | notN
  deriving DecidableEq
inductive Ty where
  | int | bool | str | list | tuple | dict
  deriving DecidableEq
def Ty.name : Ty → String
  | .int => "int" | .bool => "bool" | .str => "str" | .list => "list" | .tuple => "tuple" | .dict => "dict"
def isiD : D → Ty → Bool
  | .int _, .int => true
  | .bl _, .bool => true
  | .bl _, .int => true
  | .str _, .str => true
  | .lst _, .list => true
  | .tup _, .tuple => true
  | .dct _, .dict => true
  | _, _ => false

def binD : Bop → D → D → (D → Prop) → Prop
  | .add, .int i, .int j, Q => Q (.int (i + j))
  | .add, .str x, .str y, Q => x.length + y.length ≤ sizeLine ∧ Q (.str (x ++ y))
  | .add, .tup xs, .tup ys, Q => xs.length + ys.length ≤ sizeLine ∧ Q (.tup (xs ++ ys))
  | .add, .lst xs, .lst ys, Q => xs.length + ys.length ≤ sizeLine ∧ Q (.lst (xs ++ ys))
  | .sub, .int i, .int j, Q => Q (.int (i - j))
  | .mul, .int i, .int j, Q => CMul i j ∧ Q (.int (i * j))
  | .mul, .lst xs, .int k, Q => -(2 ^ 63) ≤ k ∧ k < 2 ^ 63 ∧ xs.length * k.toNat ≤ sizeLine ∧ Q (.lst (List.replicate k.toNat xs).flatten)
  | .fdiv, .int i, .int j, Q => (0 < j ∧ j.natAbs.log2 < 9000) ∧ Q (.int (i / j))
  | .mod, .int i, .int j, Q => 0 < j ∧ Q (.int (i % j))
  | .pow, .int i, .int j, Q => CPow i j ∧ Q (.int (i ^ j.toNat))
  | _, _, _, _ => False
structure EqLay (x y : D) : Prop where
  lx : layD x = true
  ly : layD y = true
  dep : min (depD x) (depD y) ≤ 64
def isDT : D → D → Bool
  | .dct _, .tup _ => true
  | _, _ => false
def EqOk (x y : D) : Prop := EqLay x y ∨ isDT x y = true
def cmpD : Cop → D → D → (Bool → Prop) → Prop
  | .eq, x, y, Q => EqOk x y ∧ Q (eqD x y)
  | .ne, x, y, Q => EqLay x y ∧ Q (!eqD x y)
  | .lt, .int i, .int j, Q => Q (decide (i < j))
  | .le, .int i, .int j, Q => Q (decide (i ≤ j))
  | .gt, .int i, .int j, Q => Q (decide (j < i))
  | .ge, .int i, .int j, Q => Q (decide (j ≤ i))
  | .isN, x, .non, Q => Q (match x with | .non => true | _ => false)
  | .notN, x, .non, Q => Q (match x with | .non => false | _ => true)
  | _, _, _, _ => False

inductive Bf where
  | len | all | any | tuple | list | int | abs | sum
  deriving DecidableEq
def Bf.name : Bf → Str
  | .len => "len" | .all => "all" | .any => "any" | .tuple => "tuple" | .list => "list" | .int => "int" | .abs => "abs" | .sum => "sum"
/-- the truth of flat items, for all and any -/
def flatT : D → Option Bool
  | .non => some false
  | .bl b => some b
  | .int i => some (i != 0)
  | _ => none
def flatTs : List D → Option (List Bool)
  | [] => some []
  | d :: ds => match flatT d, flatTs ds with | some b, some bs => some (b :: bs) | _, _ => none
def seqD : D → Option (List D)
  | .lst xs => some xs
  | .tup xs => some xs
  | _ => none
def intsD : List D → Option (List Int)
  | [] => some []
  | .int i :: ds => (intsD ds).map (i :: ·)
  | _ :: _ => none
def bD : Bf → List D → (D → Prop) → Prop
  | .len, [.lst xs], Q => Q (.int xs.length)
  | .len, [.tup xs], Q => Q (.int xs.length)
  | .len, [.str x], Q => x.length ≤ sizeLine ∧ Q (.int x.length)
  | .len, [.dct xs], Q => Q (.int xs.length)
  | .all, [.lst xs], Q => match flatTs xs with | some bs => Q (.bl (bs.all id)) | none => False
  | .any, [.lst xs], Q => match flatTs xs with | some bs => Q (.bl (bs.any id)) | none => False
  | .all, [.tup xs], Q => match flatTs xs with | some bs => Q (.bl (bs.all id)) | none => False
  | .any, [.tup xs], Q => match flatTs xs with | some bs => Q (.bl (bs.any id)) | none => False
  | .tuple, [.lst xs], Q => Q (.tup xs)
  | .tuple, [.tup xs], Q => Q (.tup xs)
  | .list, [.lst xs], Q => Q (.lst xs)
  | .list, [.tup xs], Q => Q (.lst xs)
  | .int, [.int i], Q => Q (.int i)
  | .abs, [.int i], Q => Q (.int (if i < 0 then -i else i))
  | .sum, [.lst xs], Q => match intsD xs with | some ns => Q (.int ns.sum) | none => False
  | _, _, _ => False
def subD : D → D → (D → Prop) → Prop
  | .lst xs, .int i, Q => match atI xs i with | some d => Q d | none => False
  | .tup xs, .int i, Q => match atI xs i with | some d => Q d | none => False
  | .str z, .int i, Q => z.length ≤ sizeLine ∧ match atI z.cps.toList i with | some c => Q (.str ⟨#[c]⟩) | none => False
  | _, _, _ => False
def cutD {α : Type} (xs : List α) (lo hi : Option Int) : List α := (xs.drop (HT.sIx xs.length 0 lo)).take (HT.sIx xs.length xs.length hi - HT.sIx xs.length 0 lo)
def slD : D → Option Int → Option Int → (D → Prop) → Prop
  | .lst xs, lo, hi, Q => Q (.lst (cutD xs lo hi))
  | .tup xs, lo, hi, Q => Q (.tup (cutD xs lo hi))
  | _, _, _, _ => False

/-! ### terms -/
inductive Tg where
  | one (i : Nat) | tup (is : List Nat)
mutual
inductive CE where
  | var (i : Nat) | int (n : Int) | str (x : Str) | bl (b : Bool) | non
  | gl (x : Str)
  | bin (op : Bop) (a b : CE) | neg (a : CE)
  | cmp (op : Cop) (a b : CE) | chain (o1 o2 : Cop) (a b c : CE)
  | not (a : CE) | bop (isAnd : Bool) (a b : CE) | ife (t a b : CE)
  | tup (es : CEs) | lst (es : CEs) | dct1 (k v : CE)
  | call (f : Str) (es : CEs) | callK (f : Str) (es : CEs) (ks : List Str) (kes : CEs) (j : Nat)
  | bcall (b : Bf) (es : CEs)
  | isi (a : CE) (t : Ty) | isis (a : CE) (ts : List Ty)
  | sub (a i : CE) | slice (a : CE) (lo hi : CO)
  | lc (tg : Tg) (it : CI) (cond : CO) (elt : CE) (own : List (Str × Nat))
inductive CEs where
  | nil | cons (e : CE) (es : CEs)
inductive CO where
  | none | some (e : CE)
/-- what is walked -/
inductive CI where
  | seq (a : CE) | rng1 (a : CE) | rng2 (a b : CE) | zip (a b : CE) | enum (a : CE)
end
def CEs.len : CEs → Nat
  | .nil => 0
  | .cons _ es => es.len + 1
mutual
inductive CS where
  | set (i : Nat) (e : CE) | setT (is : List Nat) (e : CE) | par (i j : Nat) (a b : CE)
  | expr (e : CE) | ret (e : CE) | retN | pass | brk | cont
  | ite (t : CE) (a b : CSs)
  | for_ (tg : Tg) (it : CI) (body : CSs)
  | never
inductive CSs where
  | nil | cons (s : CS) (ss : CSs)
end

/-- a def's row: its parameters, what it gives, the keyword calls that are met -/
structure FnR where
  ps : List Str
  sp : List D → (D → Prop) → Prop
  kw : List (Nat × List Str × List (Nat ⊕ D))
structure Sg where
  fn : Str → Option FnR
  gl : Str → Option D

def permD (pm : List (Nat ⊕ D)) (ds es : List D) : List D := pm.map fun q => match q with | .inl i => (ds ++ es).getD i .non | .inr d => d

def setAll (ρ : List Sl) : List Nat → List D → List Sl
  | i :: is, d :: ds => setAll (ρ.set i (.dat d)) is ds
  | _, _ => ρ
def bindT : Tg → D → List Sl → (List Sl → Prop) → Prop
  | .one i, d, ρ, Q => Q (ρ.set i (.dat d))
  | .tup is, .tup ds, ρ, Q => is.length = ds.length ∧ Q (setAll ρ is ds)
  | _, _, _, _ => False
def zipD (xs ys : List D) : List D := List.zipWith (fun x y => D.tup [x, y]) xs ys
def enumD (xs : List D) : List D := (List.range xs.length).zipWith (fun i x => D.tup [.int (i : Nat), x]) xs
def rngD (lo : Int) (n : Nat) : List D := (List.range n).map fun i => .int (lo + (i : Nat))
/-- a comprehension over xs, what is made so far acc -/
def lcD (bind : D → (List Sl → Prop) → Prop) (cond : List Sl → (Bool → Prop) → Prop) (elt : List Sl → (D → Prop) → Prop) : List D → List D → (List D → Prop) → Prop
  | [], acc, Q => Q acc
  | x :: xs, acc, Q => bind x fun ρ1 => cond ρ1 fun b => iteP b (elt ρ1 fun y => lcD bind cond elt xs (acc ++ [y]) Q) (lcD bind cond elt xs acc Q)

/-- a range's length must be told, that of what stands is known -/
def lenOb : CI → List D → Prop
  | .rng1 _, xs => xs.length ≤ sizeLine
  | .rng2 _ _, xs => xs.length ≤ sizeLine
  | _, _ => True
mutual
def wE (Γ : Sg) : CE → List Sl → (D → Prop) → Prop
  | .var i, ρ, Q => match ρ[i]? with | some (.dat d) => Q d | _ => False
  | .int n, _, Q => Q (.int n)
  | .str x, _, Q => Q (.str x)
  | .bl b, _, Q => Q (.bl b)
  | .non, _, Q => Q .non
  | .gl x, _, Q => match Γ.gl x with | some d => Q d | none => False
  | .bin op a b, ρ, Q => wE Γ a ρ fun x => wE Γ b ρ fun y => binD op x y Q
  | .neg a, ρ, Q => wE Γ a ρ fun x => match x with | .int i => Q (.int (-i)) | _ => False
  | .cmp op a b, ρ, Q => wE Γ a ρ fun x => wE Γ b ρ fun y => cmpD op x y fun k => Q (.bl k)
  | .chain o1 o2 a b c, ρ, Q => wE Γ a ρ fun x => wE Γ b ρ fun y => cmpD o1 x y fun k => iteP k (wE Γ c ρ fun z => cmpD o2 y z fun k' => Q (.bl k')) (Q (.bl false))
  | .not a, ρ, Q => wE Γ a ρ fun x => truD x fun c => Q (.bl (!c))
  | .bop isAnd a b, ρ, Q => wE Γ a ρ fun x => truD x fun c => iteP (c == isAnd) (wE Γ b ρ Q) (Q x)
  | .ife t a b, ρ, Q => wE Γ t ρ fun x => truD x fun c => iteP c (wE Γ a ρ Q) (wE Γ b ρ Q)
  | .tup es, ρ, Q => wEs Γ es ρ fun ds => Q (.tup ds)
  | .lst es, ρ, Q => wEs Γ es ρ fun ds => Q (.lst ds)
  | .dct1 k v, ρ, Q => wE Γ k ρ fun x => wE Γ v ρ fun y => match x with | .int i => Q (.dct [(.inl i, y)]) | .str s => Q (.dct [(.inr s, y)]) | _ => False
  | .call f es, ρ, Q => match Γ.fn f with | some r => wEs Γ es ρ fun ds => r.sp ds Q | none => False
  | .callK f es ks kes j, ρ, Q => match Γ.fn f with
    | some r => match r.kw[j]? with
      | some q => (q.1 = es.len ∧ q.2.1 = ks ∧ kes.len = ks.length) ∧ wEs Γ es ρ fun ds => wEs Γ kes ρ fun zs => r.sp (permD q.2.2 ds zs) Q
      | none => False
    | none => False
  | .bcall b es, ρ, Q => wEs Γ es ρ fun ds => bD b ds Q
  | .isi a t, ρ, Q => wE Γ a ρ fun d => d ≠ .bag ∧ Q (.bl (isiD d t))
  | .isis a ts, ρ, Q => wE Γ a ρ fun d => d ≠ .bag ∧ Q (.bl (ts.any fun t => isiD d t))
  | .sub a i, ρ, Q => wE Γ a ρ fun x => wE Γ i ρ fun y => subD x y Q
  | .slice a lo hi, ρ, Q => wE Γ a ρ fun x => wO Γ lo ρ fun l => wO Γ hi ρ fun h => slD x l h Q
  | .lc tg it cond elt own, ρ, Q => wI Γ it ρ fun xs => lenOb it xs ∧ lcD (fun d => bindT tg d (wipeD ρ (own.map (·.2)))) (fun ρ1 => wC Γ cond ρ1) (fun ρ1 => wE Γ elt ρ1) xs [] fun ys => Q (.lst ys)
def wEs (Γ : Sg) : CEs → List Sl → (List D → Prop) → Prop
  | .nil, _, Q => Q []
  | .cons e es, ρ, Q => wE Γ e ρ fun d => wEs Γ es ρ fun ds => Q (d :: ds)
/-- a part of a slice -/
def wO (Γ : Sg) : CO → List Sl → (Option Int → Prop) → Prop
  | .none, _, Q => Q none
  | .some e, ρ, Q => wE Γ e ρ fun d => match d with | .int i => Q (some i) | _ => False
/-- a comprehension's test -/
def wC (Γ : Sg) : CO → List Sl → (Bool → Prop) → Prop
  | .none, _, Q => Q true
  | .some e, ρ, Q => wE Γ e ρ fun d => truD d Q
def wI (Γ : Sg) : CI → List Sl → (List D → Prop) → Prop
  | .seq a, ρ, Q => wE Γ a ρ fun d => match d with | .lst xs => Q xs | .tup xs => Q xs | _ => False
  | .rng1 a, ρ, Q => wE Γ a ρ fun d => match d with | .int j => (-(2 ^ 62) ≤ j ∧ j < 2 ^ 62) ∧ Q (rngD 0 j.toNat) | _ => False
  | .rng2 a b, ρ, Q => wE Γ a ρ fun d => wE Γ b ρ fun e => match d, e with | .int i, .int j => (-(2 ^ 62) ≤ i ∧ i < 2 ^ 62 ∧ -(2 ^ 62) ≤ j ∧ j < 2 ^ 62) ∧ Q (rngD i (j - i).toNat) | _, _ => False
  | .zip a b, ρ, Q => wE Γ a ρ fun d => wE Γ b ρ fun e => match d, e with | .lst xs, .lst ys => Q (zipD xs ys) | .tup xs, .tup ys => Q (zipD xs ys) | _, _ => False
  | .enum a, ρ, Q => wE Γ a ρ fun d => match d with | .lst xs => Q (enumD xs) | _ => False
end

/-- what is wanted behind a statement -/
structure Kt where
  nx : List Sl → Prop
  rt : D → Prop
  bk : List Sl → Prop := fun _ => False
  ct : List Sl → Prop := fun _ => False
def forD (bind : D → List Sl → (List Sl → Prop) → Prop) (body : Kt → List Sl → Prop) (k : Kt) : List D → List Sl → Prop
  | [], ρ => k.nx ρ
  | x :: xs, ρ => bind x ρ fun ρ1 => body { nx := forD bind body k xs, rt := k.rt, bk := k.nx, ct := forD bind body k xs } ρ1
mutual
def wS (Γ : Sg) : CS → Kt → List Sl → Prop
  | .set i e, k, ρ => wE Γ e ρ fun d => k.nx (ρ.set i (.dat d))
  | .setT is e, k, ρ => wE Γ e ρ fun d => match d with | .tup ds => is.length = ds.length ∧ k.nx (setAll ρ is ds) | _ => False
  | .par i j a b, k, ρ => wE Γ a ρ fun x => wE Γ b ρ fun y => k.nx ((ρ.set i (.dat x)).set j (.dat y))
  | .expr e, k, ρ => wE Γ e ρ fun _ => k.nx ρ
  | .ret e, k, ρ => wE Γ e ρ fun d => k.rt d
  | .retN, k, _ => k.rt .non
  | .pass, k, ρ => k.nx ρ
  | .brk, k, ρ => k.bk ρ
  | .cont, k, ρ => k.ct ρ
  | .ite t a b, k, ρ => wE Γ t ρ fun x => truD x fun c => iteP c (wSs Γ a k ρ) (wSs Γ b k ρ)
  | .for_ tg it body, k, ρ => wI Γ it ρ fun xs => forD (bindT tg) (wSs Γ body) k xs ρ
  | .never, _, _ => False
def wSs (Γ : Sg) : CSs → Kt → List Sl → Prop
  | .nil, k, ρ => k.nx ρ
  | .cons s ss, k, ρ => wS Γ s { k with nx := fun ρ' => wSs Γ ss k ρ' } ρ
end

/-! ### the text -/
def Bop.op : Bop → Operator
  | .add => .Add | .sub => .Sub | .mul => .Mult | .fdiv => .FloorDiv | .mod => .Mod | .pow => .Pow
def Cop.op : Cop → CmpOp
  | .eq => .Eq | .ne => .NotEq | .lt => .Lt | .le => .LtE | .gt => .Gt | .ge => .GtE | .isN => .Is | .notN => .IsNot
def isStar : Expr → Bool
  | .Starred _ _ => true
  | _ => false
def isSet : Expr → Bool
  | .Set _ _ _ => true
  | _ => false
def isSlice : Expr → Bool
  | .Slice _ _ _ _ => true
  | _ => false
def isComp : Expr → Bool
  | .ListComp _ _ _ _ => true
  | .SetComp _ _ _ _ => true
  | .DictComp _ _ _ _ _ => true
  | _ => false
def visB (sc : Scope) (x : Str) : Bool := match sc.names.lookup x with
  | some .local => true
  | some .cell => true
  | some .free => true
  | _ => false
def locB (sc : Scope) (x : Str) : Bool := match sc.names.lookup x with
  | some .local => true
  | some .cell => true
  | _ => false
def globB (sc : Scope) (x : Str) : Bool := (match sc.names.lookup x with | some .globalImplicit => true | _ => false) && !(x == ("__debug__" : Str))
def chkName (N : List Str) (sc : Scope) (i : Nat) : Expr → Bool
  | .Name x _ => decide (N[i]? = some x) && locB sc x
  | _ => false
def chkNames (N : List Str) (sc : Scope) : List Nat → List Expr → Bool
  | [], [] => true
  | i :: is, e :: es => chkName N sc i e && chkNames N sc is es
  | _, _ => false
def chkTg (N : List Str) (sc : Scope) : Tg → Expr → Bool
  | .one i, e => chkName N sc i e
  | .tup is, .Tuple es _ _ => chkNames N sc is es
  | _, _ => false
def tgIn (tg : Tg) (vs : List Nat) : Bool := match tg with
  | .one i => decide (i ∈ vs)
  | .tup is => is.all fun i => decide (i ∈ vs)
/-- a comprehension's scope within the scope around -/
def relS (scope sc : Scope) : Scope := { scope with names := scope.names.map fun (n, k) => if (k == NameKind.free && sc.kind == .function && sc.names.lookup n == some .cell) then (n, NameKind.cell) else (n, k) }
def isTup : Expr → Bool
  | .Tuple _ _ _ => true
  | _ => false
def tyName (sc : Scope) (t : Ty) : Expr → Bool
  | .Name x _ => decide (x = Str.ofString t.name) && globB sc x
  | _ => false
def tyNames (sc : Scope) : List Ty → List Expr → Bool
  | [], [] => true
  | t :: ts, e :: es => tyName sc t e && tyNames sc ts es
  | _, _ => false
def kwNames : List Str → List Keyword → Bool
  | [], [] => true
  | k :: ks, ⟨some x, _, _⟩ :: r => decide (k = x) && kwNames ks r
  | _, _ => false
/-- the values of keywords -/
def kwVals (l : List Keyword) : List Expr := l.map (·.value)

mutual
def chkE (N : List Str) (sc : Scope) : CE → Expr → Bool
  | .var i, .Name x _ => decide (N[i]? = some x) && visB sc x && !(x == ("__debug__" : Str)) && !(x == ("__classdict__" : Str))
  | .int n, .Constant (.int m) _ _ => decide (n = m)
  | .str x, .Constant (.str y) _ _ => decide (x = y)
  | .bl x, .Constant (.bool y) _ _ => decide (x = y)
  | .non, .Constant .none _ _ => true
  | .gl x, .Name y _ => decide (x = y) && globB sc y
  | .bin op a b, .BinOp l o r _ => decide (o = op.op) && chkE N sc a l && chkE N sc b r
  | .neg a, .UnaryOp .USub e _ => chkE N sc a e
  | .cmp op a b, .Compare l [o] [r] _ => decide (o = op.op) && chkE N sc a l && chkE N sc b r
  | .chain p q a b c, .Compare l [o, o'] [r, r'] _ => decide (o = p.op) && decide (o' = q.op) && chkE N sc a l && chkE N sc b r && chkE N sc c r'
  | .not a, .UnaryOp .Not e _ => chkE N sc a e
  | .bop k a b, .BoolOp op [e, f] _ => decide (op = if k then .And else .Or) && chkE N sc a e && chkE N sc b f
  | .bop k a b, .BoolOp op (e :: f :: g :: r) p => decide (op = if k then .And else .Or) && chkE N sc a e && chkE N sc b (.BoolOp op (f :: g :: r) p)
  | .ife t a b, .IfExp u e f _ => chkE N sc t u && chkE N sc a e && chkE N sc b f
  | .tup es, .Tuple l _ _ => decide (es.len ≤ 1000) && chkEs N sc es l
  | .lst es, .List l _ => decide (es.len ≤ 1000) && chkEs N sc es l
  | .dct1 k v, .Dict [some e] [f] _ => chkE N sc k e && chkE N sc v f
  | .call f es, .Call (.Name x _) l [] _ => decide (f = x) && globB sc x && chkEs N sc es l
  | .callK f es ks kes _, .Call (.Name x _) l kws _ => decide (f = x) && globB sc x && chkEs N sc es l && kwNames ks kws && chkEs N sc kes (kwVals kws)
  | .bcall b es, .Call (.Name x _) l [] _ => decide (b.name = x) && globB sc x && chkEs N sc es l
  | .isi a t, .Call (.Name x _) [e, f] [] _ => decide (x = "isinstance") && globB sc x && !isStar e && chkE N sc a e && tyName sc t f
  | .isis a ts, .Call (.Name x _) [e, .Tuple fs _ _] [] _ => decide (ts.length ≤ 1000) && decide (x = "isinstance") && globB sc x && !isStar e && chkE N sc a e && tyNames sc ts fs
  | .sub a i, .Subscript e f _ => !isSlice f && chkE N sc a e && chkE N sc i f
  | .slice a lo hi, .Subscript e (.Slice l h none _) _ => chkE N sc a e && chkO N sc lo l && chkO N sc hi h
  | .lc tg it cond elt own, .ListComp e [⟨t, i, ifs, n⟩] scope _ => decide (n = 0) && chkTg N scope tg t && chkI N sc it i (isTup t) && chkC N (relS scope sc) cond ifs && chkE N (relS scope sc) elt e && blkC N sc scope own && tgIn tg (own.map (·.2))
  | _, _ => false
def chkEs (N : List Str) (sc : Scope) : CEs → List Expr → Bool
  | .nil, [] => true
  | .cons a as, e :: es => !isStar e && chkE N sc a e && chkEs N sc as es
  | _, _ => false
def chkO (N : List Str) (sc : Scope) : CO → Option Expr → Bool
  | .none, none => true
  | .some a, some e => chkE N sc a e
  | _, _ => false
def chkC (N : List Str) (sc : Scope) : CO → List Expr → Bool
  | .none, [] => true
  | .some c, [f] => chkE N sc c f
  | _, _ => false
def chkI (N : List Str) (sc : Scope) : CI → Expr → Bool → Bool
  | .seq a, e, _ => chkE N sc a e && !isSet e
  | .rng1 a, .Call (.Name x _) [e] [] _, _ => decide (x = "range") && globB sc x && !isStar e && chkE N sc a e
  | .rng2 a b, .Call (.Name x _) [e, f] [] _, _ => decide (x = "range") && globB sc x && !isStar e && !isStar f && chkE N sc a e && chkE N sc b f
  | .zip a b, .Call (.Name x _) [e, f] [] _, t => t && decide (x = "zip") && globB sc x && !isStar e && !isStar f && chkE N sc a e && chkE N sc b f
  | .enum a, .Call (.Name x _) [e] [] _, t => t && decide (x = "enumerate") && globB sc x && !isStar e && chkE N sc a e
  | _, _, _ => false
end
/-- name = comprehension, stored within the comprehension's frame -/
def swB (sc : Scope) (y : Str) (py : Pos) : Expr → Bool
  | .ListComp _ _ scope pos => (match sc.names.lookup y with | some .local => true | _ => false) && (py.line == pos.line) && !(scope.names.any fun (n, k) => n == y && (k == .local || k == .cell))
  | _ => false
def isLoc (sc : Scope) (x : Str) : Bool := match sc.names.lookup x with
  | some .local => true
  | _ => false
def allLoc (sc : Scope) (ts : List Expr) : Bool := ts.all fun t => match t with | .Name x _ => (match sc.names.lookup x with | some .local => true | _ => false) | _ => false
def tupR (sc : Scope) (ts : List Expr) : Expr → Bool
  | .Tuple vs _ _ => (!(vs.length == ts.length) || !allLoc sc ts) && !(vs.any isStar)
  | _ => true
def foldS (vs : List Expr) : Bool := vs.all (foldedForSure 8) || vs.all (constantsAlone 8)
mutual
def chkS (N : List Str) (sc : Scope) : CS → Stmt → Bool
  | .set i e, .Assign [t] v _ => chkName N sc i t && chkE N sc e v
  | .setT is e, .Assign [.Tuple ts _ _] v _ => chkNames N sc is ts && chkE N sc e v && !isComp v && tupR sc ts v
  | .expr e, .Expr v _ => chkE N sc e v && !isComp v
  | .ret e, .Return (some v) _ => chkE N sc e v
  | .retN, .Return none _ => true
  | .pass, .Pass _ => true
  | .brk, .Break _ => true
  | .cont, .Continue _ => true
  | .ite t a b, .If c x y _ => chkE N sc t c && chkSs N sc a x && chkSs N sc b y
  | .for_ tg it body, .For t i x [] _ => chkTg N sc tg t && chkI N sc it i (isTup t) && chkSs N sc body x
  | .never, _ => true
  | _, _ => false
def chkSs (N : List Str) (sc : Scope) : CSs → List Stmt → Bool
  | .nil, [] => true
  | .cons s ss, e :: es => chkS N sc s e && chkSs N sc ss es
  | _, _ => false
end
end DL
set_option maxHeartbeats 4000000
/-! DL: operations on data, by the layer's rules. -/
namespace DL
open PySem PySem.Spec PyProof.Rows L2

/-! ### what is wanted of code, as readings -/
section
variable (X : Cx)
abbrev wpt (e : Expr) : TE := fun σ H Q => ∀ pins s, Inv X pins σ H s → wpAny (model X.prog X.w) X.A (eval e X.env) (EP X pins σ Q) X.xe s
abbrev wptt (e : Expr) : TT := fun σ H Q => ∀ pins s, Inv X pins σ H s → wpAny (model X.prog X.w) X.A (isTrue e X.env (eval e X.env)) (TP X pins σ Q) X.xe s
abbrev wpa (es : List Expr) : TA := fun σ H Q => ∀ (pos : Pos) pins s, Inv X pins σ H s → wpAny (model X.prog X.w) X.A (spliced (backTo pos (starEach es X.env))) (AP X pins σ Q) X.xe s
abbrev wpk (es : List Keyword) : TA := fun σ H Q => ∀ (pos : Pos) pins s, Inv X pins σ H s → wpAny (model X.prog X.w) X.A (evalAll ((backToKw pos (keywordEach es X.env)).map (·.2))) (AP X pins σ Q) X.xe s
abbrev wpr (f : Value → Value → Sem Value) : R2 := fun x y H Q => ∀ pins s σ v u, Inv X pins σ H s → RelV x v → RelV y u → wpAny (model X.prog X.w) X.A (f v u) (EP X pins σ Q) X.xe s
abbrev wpc (f : Value) : List V → Hp → VK → Prop := fun xs H Q => ∀ pins s σ us, Inv X pins σ H s → Vals xs us → wpAny (model X.prog X.w) X.A (call f us) (EP X pins σ Q) X.xe s
abbrev wps (st : Stmt) : TS := fun D σ H => ∀ pins s, Inv X pins σ H s → wpAny (model X.prog X.w) X.A (exec st X.env) (SP X pins D) X.xe s
abbrev wpss (st : List Stmt) : TS := fun D σ H => ∀ pins s, Inv X pins σ H s → wpAny (model X.prog X.w) X.A (execs st X.env) (SP X pins D) X.xe s
abbrev wpi (tg iter : Expr) : TI := fun σ H R => ∀ pins s, Inv X pins σ H s → wpAny (model X.prog X.w) X.A (eval iter X.env) (fun v s1 => wpAny (model X.prog X.w) X.A (pyIter v) (PIE X pins σ tg R) X.xe s1) X.xe s
abbrev wpg (tg : Expr) : TG := fun v σ H Q => ∀ pins s u, Inv X pins σ H s → RelV v u → wpAny (model X.prog X.w) X.A (assign tg X.env u) (fun _ s' => ∃ σ' H', Inv X pins σ' H' s' ∧ Q σ' H') X.xe s
end
section
variable {X : Cx}
theorem pe_wpt (e : Expr) : PE X e (wpt X e) := ⟨fun pins s σ H Q I h => h pins s I⟩
theorem pt_wpt (e : Expr) : PT X e (wptt X e) := ⟨fun pins s σ H Q I h => h pins s I⟩
theorem pa_wpt (e : List Expr) : PA X e (wpa X e) := ⟨fun pos pins s σ H Q I h => h pos pins s I⟩
theorem pk_wpt (e : List Keyword) : PK X e (wpk X e) := ⟨fun pos pins s σ H Q I h => h pos pins s I⟩
theorem or_wpt (f : Value → Value → Sem Value) : OpR X f (wpr X f) := fun pins s σ H x y v u Q I rx ry h => h pins s σ v u I rx ry
theorem cr_wpt (f : Value) : CallR X f (wpc X f) := fun pins s σ H xs us Q I r h => h pins s σ us I r
theorem ps_wpt (e : Stmt) : PS X e (wps X e) := ⟨fun pins s σ H D I h => h pins s I⟩
theorem pss_wpt (e : List Stmt) : PSs X e (wpss X e) := ⟨fun pins s σ H D I h => h pins s I⟩
theorem pi_wpt (tg e : Expr) : PI X tg e (wpi X tg e) := ⟨fun pins s σ H R I h => h pins s I⟩
theorem pg_wpt (tg : Expr) : PG X tg (wpg X tg) := ⟨fun pins s σ H v u Q I r h => h pins s u I r⟩
theorem of_pe {e : Expr} {t : TE} (h : PE X e t) {σ : L2.St} {H : Hp} {Q : VK} (q : t σ H Q) : wpt X e σ H Q := fun pins s I => h.run pins s σ H Q I q
theorem of_pt {e : Expr} {t : TT} (h : PT X e t) {σ : L2.St} {H : Hp} {Q : Bool → Hp → Prop} (q : t σ H Q) : wptt X e σ H Q := fun pins s I => h.run pins s σ H Q I q
theorem of_pa {e : List Expr} {t : TA} (h : PA X e t) {σ : L2.St} {H : Hp} {Q : List V → Hp → Prop} (q : t σ H Q) : wpa X e σ H Q := fun pos pins s I => h.run pos pins s σ H Q I q
theorem of_pk {e : List Keyword} {t : TA} (h : PK X e t) {σ : L2.St} {H : Hp} {Q : List V → Hp → Prop} (q : t σ H Q) : wpk X e σ H Q := fun pos pins s I => h.run pos pins s σ H Q I q
theorem of_or {f : Value → Value → Sem Value} {r : R2} (h : OpR X f r) {x y : V} {H : Hp} {Q : VK} (q : r x y H Q) : wpr X f x y H Q := fun pins s σ v u I rx ry => h pins s σ H x y v u Q I rx ry q
theorem of_cr {f : Value} {r : List V → Hp → VK → Prop} (h : CallR X f r) {xs : List V} {H : Hp} {Q : VK} (q : r xs H Q) : wpc X f xs H Q := fun pins s σ us I r => h pins s σ H xs us Q I r q
theorem of_ps {e : Stmt} {t : TS} (h : PS X e t) {σ : L2.St} {H : Hp} {D : Ends} (q : t D σ H) : wps X e D σ H := fun pins s I => h.run pins s σ H D I q
theorem of_pss {e : List Stmt} {t : TS} (h : PSs X e t) {σ : L2.St} {H : Hp} {D : Ends} (q : t D σ H) : wpss X e D σ H := fun pins s I => h.run pins s σ H D I q
theorem of_pi {tg e : Expr} {t : TI} (h : PI X tg e t) {σ : L2.St} {H : Hp} {R : It → Hp → Prop} (q : t σ H R) : wpi X tg e σ H R := fun pins s I => h.run pins s σ H R I q
theorem of_pg {tg : Expr} {t : TG} (h : PG X tg t) {v : V} {σ : L2.St} {H : Hp} {Q : L2.St → Hp → Prop} (q : t v σ H Q) : wpg X tg v σ H Q := fun pins s u I r => h.run pins s σ H v u Q I r q
theorem wpt.mono {e : Expr} {σ : L2.St} {H : Hp} {Q Q' : VK} (h : wpt X e σ H Q) (f : ∀ v H', Q v H' → Q' v H') : wpt X e σ H Q' :=
  fun pins s I => thn (h pins s I) fun u s' ⟨v, H', I', r, q⟩ => ⟨v, H', I', r, f _ _ q⟩
end

section
variable {X : Cx}
/-- what is wanted behind an expression may lean on the state there -/
theorem wpt_inv {e : Expr} {σ : L2.St} {H : Hp} {Q : VK} (h : wpt X e σ H fun v H1 => (∃ pins s, Inv X pins σ H1 s) → Q v H1) : wpt X e σ H Q :=
  fun pins s I => thn (h pins s I) fun u s' ⟨v, H', I', r, q⟩ => ⟨v, H', I', r, q ⟨_, _, I'⟩⟩
end
/-! ### truth -/
theorem truD_imp {d : D} {P P' : Bool → Prop} (h : truD d P) (f : ∀ c, P c → P' c) : truD d P' := by
  cases d <;> simp only [truD] at h ⊢ <;> first | exact f _ h | exact ⟨h.1, f _ h.2⟩ | exact h
theorem truD_and {d : D} {P P' : Bool → Prop} (h : truD d P) (h' : truD d P') : truD d fun c => P c ∧ P' c := by
  cases d <;> simp only [truD] at h h' ⊢ <;> first | exact ⟨h, h'⟩ | exact ⟨h.1, h.2, h'.2⟩ | exact h
section
variable {K : PySem.W.Frag} {B : Addr} {R H : Hp}
theorem rdkv_len : ∀ {v : List (Key × V)} {d : List (Key × D)}, RdKV K B R v d → v.length = d.length
  | _, _, .nil => rfl
  | _, _, .cons _ r => by simp [rdkv_len r]
theorem emp_len {α β : Type} {xs : List α} {ys : List β} (h : xs.length = ys.length) : xs.isEmpty = ys.isEmpty := by
  cases xs <;> cases ys <;> first | rfl | simp at h
theorem tru_rd {v : V} {d : D} {P : Bool → Prop} (s : Same R H) (r : Rd K B R v d) (h : truD d P) : ∃ k, TruV K v H k ∧ P k := by
  cases r with
  | non => exact ⟨_, rfl, h⟩
  | bl b => exact ⟨_, rfl, h⟩
  | int i => exact ⟨_, rfl, h⟩
  | str x => exact ⟨_, ⟨h.1, rfl⟩, h.2⟩
  | @tup a xs ds q r =>
    refine ⟨_, .inr (.inl ⟨xs, sqT_mono s q, rfl⟩), ?_⟩
    rw [emp_len r.length]; exact h
  | @lst a xs ds q r =>
    refine ⟨_, .inl ⟨xs, SqL.of (s _ _ q), rfl⟩, ?_⟩
    rw [emp_len r.length]; exact h
  | @dct a xs ds q r =>
    refine ⟨_, .inr (.inr ⟨xs, s _ _ q, rfl⟩), ?_⟩
    rw [emp_len (rdkv_len r)]; exact h
  | bag => exact h.elim
end

/-! ### equality -/
mutual
def toP : D → PyData
  | .non => .none
  | .bl b => .bool b
  | .int i => .int i
  | .str x => .str x
  | .lst ds => .list (toPs ds)
  | .tup ds => .tuple (toPs ds)
  | .dct _ => .dict []
  | .bag => .dict []
def toPs : List D → List PyData
  | [] => []
  | d :: ds => toP d :: toPs ds
end
mutual
theorem eqv_toP : ∀ (x y : D), layD x = true → layD y = true → PyData.eqv (toP x) (toP y) = eqD x y
  | x, y => by
    intro hx hy
    cases x <;> cases y <;> first
      | (simp only [toP, PyData.eqv, eqD]; done)
      | (simp only [layD] at hx hy; simp only [toP, PyData.eqv, eqD]; exact eqvs_toP _ _ hx hy)
      | (exfalso; simp [layD] at hx; done)
      | (exfalso; simp [layD] at hy; done)
theorem eqvs_toP : ∀ (xs ys : List D), layDs xs = true → layDs ys = true → PyData.eqvAll (toPs xs) (toPs ys) = eqDs xs ys
  | [], [] => by intro _ _; simp only [toPs, PyData.eqvAll, eqDs]
  | [], _ :: _ => by intro _ _; simp only [toPs, PyData.eqvAll, eqDs]
  | _ :: _, [] => by intro _ _; simp only [toPs, PyData.eqvAll, eqDs]
  | x :: xs, y :: ys => by
    intro hx hy
    simp only [layDs, Bool.and_eq_true] at hx hy
    simp only [toPs, PyData.eqvAll, eqDs]
    rw [eqv_toP x y hx.1 hy.1, eqvs_toP xs ys hx.2 hy.2]
end
mutual
theorem lay_toP : ∀ (x : D), layD x = true → (toP x).canLay0 = true
  | .non, _ => by simp [toP, PyData.canLay0]
  | .bl _, _ => by simp [toP, PyData.canLay0]
  | .int _, _ => by simp [toP, PyData.canLay0]
  | .str x, h => by simp only [layD] at h; simpa [toP, PyData.canLay0] using h
  | .lst xs, h => by simp only [layD] at h; simp only [toP, PyData.canLay0]; exact lays_toP xs h
  | .tup xs, h => by simp only [layD] at h; simp only [toP, PyData.canLay0]; exact lays_toP xs h
  | .dct _, h => by simp only [layD] at h; cases h
  | .bag, h => by simp only [layD] at h; cases h
theorem lays_toP : ∀ (x : List D), layDs x = true → PyData.canLayAll0 (toPs x) = true
  | [], _ => by simp [toPs, PyData.canLayAll0]
  | x :: xs, h => by
    simp only [layDs, Bool.and_eq_true] at h
    simp only [toPs, PyData.canLayAll0, Bool.and_eq_true]
    exact ⟨lay_toP x h.1, lays_toP xs h.2⟩
end
mutual
theorem dep_toP : ∀ (x : D), layD x = true → (toP x).depth = depD x
  | .non, _ => by simp [toP, PyData.depth, depD]
  | .bl _, _ => by simp [toP, PyData.depth, depD]
  | .int _, _ => by simp [toP, PyData.depth, depD]
  | .str x, h => by simp [toP, PyData.depth, depD]
  | .lst xs, h => by simp only [layD] at h; simp only [toP, PyData.depth, depD]; rw [deps_toP xs h]
  | .tup xs, h => by simp only [layD] at h; simp only [toP, PyData.depth, depD]; rw [deps_toP xs h]
  | .dct _, h => by simp only [layD] at h; cases h
  | .bag, h => by simp only [layD] at h; cases h
theorem deps_toP : ∀ (x : List D), layDs x = true → PyData.depthAll (toPs x) = depDs x
  | [], _ => by simp [toPs, PyData.depthAll, depDs]
  | x :: xs, h => by
    simp only [layDs, Bool.and_eq_true] at h
    simp only [toPs, PyData.depthAll, depDs]
    rw [dep_toP x h.1, deps_toP xs h.2]
end
section
variable {K : PySem.W.Frag} {B : Addr} {R H : Hp}
mutual
theorem dp_rd (s : Same R H) : ∀ {v : V} {d : D}, layD d = true → Rd K B R v d → Dp K H v (toP d)
  | _, _, _, .non => by simp only [toP]; exact .non
  | _, _, _, .bl b => by simp only [toP]; exact .bl b
  | _, _, _, .int i => by simp only [toP]; exact .int i
  | _, _, _, .str x => by simp only [toP]; exact .str x
  | _, _, h, .tup q r => by simp only [layD] at h; simp only [toP]; exact .tup (sqT_mono s q) (dps_rd s h r)
  | _, _, h, .lst q r => by simp only [layD] at h; simp only [toP]; exact .lst (SqL.of (s _ _ q)) (dps_rd s h r)
  | _, _, h, .dct q r => by simp only [layD] at h; cases h
  | _, _, h, .bag => by simp only [layD] at h; cases h
theorem dps_rd (s : Same R H) : ∀ {v : List V} {d : List D}, layDs d = true → RdAll K B R v d → DpAll K H v (toPs d)
  | _, _, _, .nil => by simp only [toPs]; exact .nil
  | _, _, h, .cons a r => by
    simp only [layDs, Bool.and_eq_true] at h
    simp only [toPs]
    exact .cons (dp_rd s h.1 a) (dps_rd s h.2 r)
end
end
section
variable {X : Cx}
def rEqM (K : PySem.W.Frag) : R2 := fun x y H Q => ∃ d e, Dp K H x d ∧ Dp K H y e ∧ d.canLay0 = true ∧ e.canLay0 = true ∧ min d.depth e.depth ≤ 64 ∧ Q (.bl (PyData.eqv d e)) H
def rNeM (K : PySem.W.Frag) : R2 := fun x y H Q => ∃ d e, Dp K H x d ∧ Dp K H y e ∧ d.canLay0 = true ∧ e.canLay0 = true ∧ min d.depth e.depth ≤ 64 ∧ Q (.bl (!PyData.eqv d e)) H
theorem op_eqM (hu : X.A.units + 64 < cLine) : OpR X (compareOp .Eq) (rEqM X.K) := by
  intro pins s σ H x y v u Q I rx ry h
  obtain ⟨d, e, hd, he, sd, se, hm, q⟩ := h
  obtain ⟨as, r1⟩ := Dp.reads I d x v hd rx
  obtain ⟨bs, r2⟩ := Dp.reads I e y u he ry
  exact SeqAt.compareEq_reads r1 r2 sd se (by omega) ⟨.bl _, H, I, rfl, q⟩
theorem op_neM (hu : X.A.units + 64 < cLine) : OpR X (compareOp .NotEq) (rNeM X.K) := by
  intro pins s σ H x y v u Q I rx ry h
  obtain ⟨d, e, hd, he, sd, se, hm, q⟩ := h
  obtain ⟨as, r1⟩ := Dp.reads I d x v hd rx
  obtain ⟨bs, r2⟩ := Dp.reads I e y u he ry
  exact SeqAt.compareNe_reads r1 r2 sd se (by omega) ⟨.bl _, H, I, rfl, q⟩
end
end DL
set_option maxHeartbeats 4000000
namespace DL
open PySem PySem.Spec PyProof.Rows L2
section
variable {X : Cx} {B : Addr} {R H : Hp} {Q : VK} {W : D → Prop} {x y : V} {d e : D}
/-- what follows, over data -/
abbrev To (K : PySem.W.Frag) (B : Addr) (R H : Hp) (W : D → Prop) (Q : VK) : Prop := ∀ v d R' H', Nx B R H R' H' → Rd K B R' v d → W d → Q v H'
theorem To.here {K : PySem.W.Frag} (t : To K B R H W Q) (s : Same R H) (b : BagOk B R H) {v : V} {d : D} (r : Rd K B R v d) (h : W d) : Q v H := t v d R H (Nx.refl s b) r h
theorem To.lst {K : PySem.W.Frag} (t : To K B R H W Q) (s : Same R H) (b : BagOk B R H) {xs : List V} {ds : List D} (r : RdAll K B R xs ds) (h : W (.lst ds)) : ∀ p, H p = none → Q (.ref p) (upd H p (.lst xs)) := fun p hp => by
  have n := Nx.new s b hp (.lst xs)
  exact t _ _ _ _ n (.lst upd_same (r.mono n.r)) h
theorem To.tup {K : PySem.W.Frag} (t : To K B R H W Q) (s : Same R H) (b : BagOk B R H) {xs : List V} {ds : List D} (r : RdAll K B R xs ds) (h : W (.tup ds)) : ∀ p, H p = none → Q (.ref p) (upd H p (.tup xs)) := fun p hp => by
  have n := Nx.new s b hp (.tup xs)
  exact t _ _ _ _ n (.tup (SqT.of upd_same) (r.mono n.r)) h
theorem rdall_flat {K : PySem.W.Frag} {vs : List V} {ds : List D} (r : RdAll K B R vs ds) : ∀ k, RdAll K B R (List.replicate k vs).flatten (List.replicate k ds).flatten
  | 0 => .nil
  | k + 1 => by
    rw [List.replicate_succ, List.replicate_succ, List.flatten_cons, List.flatten_cons]
    exact r.append (rdall_flat r k)
theorem bin_ok (op : Bop) (s : Same R H) (b : BagOk B R H) (hx : Rd X.K B R x d) (hy : Rd X.K B R y e) (h : binD op d e W) (t : To X.K B R H W Q) : wpr X (binaryOp op.op) x y H Q := by
  cases op with
  | add =>
    cases d <;> cases e <;> first | exact False.elim h | skip
    · cases hx; cases hy
      exact of_or op_add ⟨_, _, rfl, rfl, t.here s b (.int _) h⟩
    · cases hx; cases hy
      exact of_or op_add_str ⟨_, _, rfl, rfl, h.1, t.here s b (.str _) h.2⟩
    · cases hx with
      | @tup a1 xs1 ds1 q1 r1 =>
      cases hy with
      | @tup a2 xs2 ds2 q2 r2 =>
      refine of_or op_catA ⟨_, _, _, _, rfl, rfl, sqT_mono s q1, sqT_mono s q2, by rw [r1.length, r2.length]; exact h.1, fun e1 => ?_, fun _ e2 => ?_, fun _ _ => t.tup s b (r1.append r2) h.2⟩
      · subst e1; cases r1
        exact t.here s b (.tup q2 r2) (by simpa using h.2)
      · subst e2; cases r2
        exact t.here s b (.tup q1 r1) (by simpa using h.2)
    · cases hx with
      | @lst a1 xs1 ds1 q1 r1 =>
      cases hy with
      | @lst a2 xs2 ds2 q2 r2 =>
      exact of_or op_cat ⟨_, _, _, _, rfl, rfl, s _ _ q1, s _ _ q2, by rw [r1.length, r2.length]; exact h.1, t.lst s b (r1.append r2) h.2⟩
  | sub =>
    cases d <;> cases e <;> first | exact False.elim h | skip
    cases hx; cases hy
    exact of_or op_sub ⟨_, _, rfl, rfl, t.here s b (.int _) h⟩
  | mul =>
    cases d <;> cases e <;> first | exact False.elim h | skip
    · cases hx; cases hy
      exact of_or op_mul ⟨_, _, rfl, rfl, h.1, t.here s b (.int _) h.2⟩
    · cases hy
      cases hx with
      | @lst a1 xs1 ds1 q1 r1 =>
      exact of_or op_rep ⟨_, _, _, rfl, rfl, s _ _ q1, h.1, h.2.1, by rw [r1.length]; exact h.2.2.1, t.lst s b (rdall_flat r1 _) h.2.2.2⟩
  | fdiv =>
    cases d <;> cases e <;> first | exact False.elim h | skip
    cases hx; cases hy
    exact of_or op_fdivW ⟨_, _, rfl, rfl, h.1, t.here s b (.int _) h.2⟩
  | mod =>
    cases d <;> cases e <;> first | exact False.elim h | skip
    cases hx; cases hy
    exact of_or op_mod ⟨_, _, rfl, rfl, h.1, t.here s b (.int _) h.2⟩
  | pow =>
    cases d <;> cases e <;> first | exact False.elim h | skip
    cases hx; cases hy
    exact of_or op_pow ⟨_, _, rfl, rfl, h.1, t.here s b (.int _) h.2⟩
theorem none_rd (hx : Rd X.K B R x d) : decide (x = .non) = (match d with | .non => true | _ => false) := by
  cases hx <;> simp
theorem cmp_ok (op : Cop) (hu : X.A.units + 64 < cLine) {W : Bool → Prop} (s : Same R H) (b : BagOk B R H) (hx : Rd X.K B R x d) (hy : Rd X.K B R y e) (h : cmpD op d e W) (t : ∀ k, W k → Q (.bl k) H) : wpr X (compareOp op.op) x y H Q := by
  cases op with
  | eq =>
    obtain ⟨⟨h1, h2, h3⟩ | hdt, h4⟩ := h
    case inr =>
      cases d <;> cases e <;> first | exact absurd hdt Bool.false_ne_true | skip
      cases hx with
      | dct q r =>
      cases hy with
      | tup q' r' =>
      exact of_or (DLQ.op_eqDT hu) ⟨_, _, _, _, rfl, rfl, s _ _ q, sqT_mono s q', t _ h4⟩
    refine of_or (op_eqM hu) ⟨_, _, dp_rd s h1 hx, dp_rd s h2 hy, lay_toP _ h1, lay_toP _ h2, by rw [dep_toP _ h1, dep_toP _ h2]; exact h3, ?_⟩
    rw [eqv_toP _ _ h1 h2]; exact t _ h4
  | ne =>
    obtain ⟨⟨h1, h2, h3⟩, h4⟩ := h
    refine of_or (op_neM hu) ⟨_, _, dp_rd s h1 hx, dp_rd s h2 hy, lay_toP _ h1, lay_toP _ h2, by rw [dep_toP _ h1, dep_toP _ h2]; exact h3, ?_⟩
    rw [eqv_toP _ _ h1 h2]; exact t _ h4
  | lt =>
    cases d <;> cases e <;> first | exact False.elim h | skip
    cases hx; cases hy
    exact of_or op_lt ⟨_, _, rfl, rfl, t _ h⟩
  | le =>
    cases d <;> cases e <;> first | exact False.elim h | skip
    cases hx; cases hy
    exact of_or op_le ⟨_, _, rfl, rfl, t _ h⟩
  | gt =>
    cases d <;> cases e <;> first | exact False.elim h | skip
    cases hx; cases hy
    exact of_or op_gt ⟨_, _, rfl, rfl, t _ h⟩
  | ge =>
    cases d <;> cases e <;> first | exact False.elim h | skip
    cases hx; cases hy
    exact of_or op_ge ⟨_, _, rfl, rfl, t _ h⟩
  | isN =>
    cases e <;> first | (cases d <;> exact False.elim h) | skip
    cases hy
    refine of_or op_isN ⟨rfl, ?_⟩
    rw [none_rd hx]
    cases d <;> exact t _ h
  | notN =>
    cases e <;> first | (cases d <;> exact False.elim h) | skip
    cases hy
    refine of_or op_notN ⟨rfl, ?_⟩
    rw [none_rd hx]
    cases d <;> exact t _ h

/-! ### isinstance -/
def tyOf : D → String
  | .non => "NoneType" | .bl _ => "bool" | .int _ => "int" | .str _ => "str" | .tup _ => "tuple" | .lst _ => "list" | .dct _ => "dict" | .bag => "list"
theorem tyx_rd (s : Same R H) (b : BagOk B R H) (hx : Rd X.K B R x d) : TyX X.K H x (.type (tyOf d)) := by
  cases hx with
  | non => exact .base .non
  | bl b => exact .base (.bl b)
  | int i => exact .base (.int i)
  | str z => exact .base (.str z)
  | tup q r =>
    rcases sqT_mono s q with (q | ⟨o, q⟩) | ⟨o, its, n, q, c, _⟩
    · exact .base (.tup q)
    · exact .fTuple q
    · exact .kTuple q c
  | lst q r => exact .base (.lst (s _ _ q))
  | dct q r => exact .base (.dK (s _ _ q))
  | bag =>
    obtain ⟨_, L, ns, i, c, m, k, h, _⟩ := b
    exact .base (.lst h)
theorem kit_d (hd : d ≠ .bag) (t : Ty) : kitB (tyOf d) t.name = some (isiD d t) := by
  cases d <;> cases t <;> first | exact absurd rfl hd | (simp only [tyOf, Ty.name, isiD]; decide +kernel)
theorem kits_d {K : PySem.W.Frag} (hd : d ≠ .bag) : ∀ ts : List Ty, PySem.W.kitAny K (.type (tyOf d)) (ts.map fun t => Value.type t.name) = some (ts.any fun t => isiD d t)
  | [] => kitAny_nil
  | t :: ts => by
    refine kitAny_cons (kit_ty (kit_d hd t)) (fun e => ?_) (fun e => ?_)
    · rw [List.any_cons, e, Bool.false_or]; exact kits_d hd ts
    · rw [List.any_cons, e, Bool.true_or]

/-! ### built-in functions -/
theorem rdall1 {K : PySem.W.Frag} {vs : List V} {d : D} (r : RdAll K B R vs [d]) : ∃ v, vs = [v] ∧ Rd K B R v d := by
  cases r with
  | cons a r => cases r; exact ⟨_, rfl, a⟩
theorem flat_all : ∀ {ds : List D} {bs : List Bool}, flatTs ds = some bs → ds.length = bs.length ∧ ∀ i d, ds[i]? = some d → flatT d = some (bs.getD i false)
  | [], bs, h => by simp only [flatTs, Option.some.injEq] at h; subst h; exact ⟨rfl, fun i d e => by simp at e⟩
  | d :: ds, bs, h => by
    simp only [flatTs] at h
    cases e1 : flatT d with
    | none => rw [e1] at h; cases h
    | some b =>
      cases e2 : flatTs ds with
      | none => rw [e1, e2] at h; cases h
      | some bs' =>
        rw [e1, e2] at h
        simp only [Option.some.injEq] at h
        subst h
        obtain ⟨l, f⟩ := flat_all e2
        refine ⟨by simp [l], fun i x e => ?_⟩
        cases i with
        | zero => simp at e; subst e; simpa using e1
        | succ i => simpa using f i x (by simpa using e)
theorem truth_flat {P : Program} {w : World} {A : Around} {K : PySem.W.Frag} {vs : List V} {its : List Value} {ds : List D} {bs : List Bool} (rv : Vals vs its) (r : RdAll K B R vs ds) (h : flatTs ds = some bs) :
    TruthOf P w A (fun i v => its.toArray[i]? = some v) (fun i => bs.getD i false) := fun i v s Q E hv hq => by
  have hv' : its[i]? = some v := by simpa using hv
  have hi : i < vs.length := by
    rw [rv.length]; exact (List.getElem?_eq_some_iff.mp hv').1
  have hx : vs[i]? = some vs[i] := List.getElem?_eq_getElem hi
  obtain ⟨u, hu, ru⟩ := rv.get hx
  rw [hv'] at hu
  cases hu
  obtain ⟨d, hd, rd⟩ := r.get hx
  have e := (flat_all h).2 i d hd
  generalize hz : vs[i] = z at ru rd
  cases rd <;> simp only [flatT, Option.some.injEq] at e <;> first | cases e; done | skip
  · cases ru; refine truthy_none ?_; rw [e]; exact hq
  · cases ru; refine wpAny_truthy_bool ?_; rw [e]; exact hq
  · obtain ⟨t, rfl⟩ := ru; refine PySem.P.truthy_int ?_; rw [e]; exact hq
theorem iter_anyT {prog : Program} {w : World} {A : Around} {E : Value → Shared → Prop} {s : Shared} {l : Addr} {items : Array Value} {Q : Value → Shared → Prop} (hl : s.heap.IsTuple l items)
    (h : ∀ s₂ : Shared, s₂ = { s with heap := s.heap.push { cls := .type "tuple_iterator", data := .fields #[.ref l, .int 0 0] } } →
      (s₂.heap.IsTupleIter s.heap.objs.size l 0 ∧ s₂.heap.IsTuple l items) → l ≠ s.heap.objs.size → Q (.ref s.heap.objs.size) s₂) : wpAny (model prog w) A (pyIter (.ref l)) Q E s := by
  have hlt : l < s.heap.objs.size := by obtain ⟨_, e, _⟩ := hl; exact Heap.lt_size e
  refine wpAny_pyIter_tuple hl (h _ rfl ⟨⟨_, Heap.get?_push_size _ rfl, rfl, rfl⟩, ?_⟩ (Nat.ne_of_lt hlt))
  obtain ⟨o, e, c⟩ := hl
  exact ⟨o, Heap.get?_push_of_some _ e, c⟩
/-- all, any of a list or tuple of flat items -/
def rAA (K : PySem.W.Frag) (f : List Bool → Bool) : List V → Hp → VK → Prop := fun vs H Q => ∃ (a : Addr) (xs : List V) (B : Addr) (R : Hp) (ds : List D) (bs : List Bool), vs = [V.ref a] ∧ (SqL K H a xs ∨ SqT K H a xs) ∧ RdAll K B R xs ds ∧ flatTs ds = some bs ∧ Q (.bl (f bs)) H
theorem cr_anyA (hc : X.calm = true) : CallR X (.builtin "any") (rAA X.K fun bs => bs.any id) := by
  intro pins s σ H vs us Q I r h
  obtain ⟨a, xs, B, R, ds, bs, rfl, hs, hr, hf, q⟩ := h
  have hlen : ∀ its : List Value, Vals xs its → its.length = bs.length := fun its rv => by rw [← rv.length, hr.length, (flat_all hf).1]
  rcases hs with hs | hs
  · obtain ⟨its, rv, hl, _⟩ := I.list hs
    rw [Vals.ref1 r]
    refine call_any_walk (iter_any hl.isList fun s₂ e2 st hne => ?_)
    subst e2
    refine ⟨_, _, _, _, _, _, _, rfl, Walks.list (A := X.A.in1) (I.ok.hd hc) _ a hne its.toArray, st, truth_flat rv hr hf, fun h' tk hk => ?_⟩
    refine ⟨.bl _, H, I.kept fun b o eo => hk b o (fun hmem => ?_) (Heap.get?_push_of_some _ eo), ?_, q⟩
    · rcases List.mem_cons.mp hmem with e1 | hmem
      · exact absurd (e1 ▸ Heap.lt_size eo) (Nat.lt_irrefl _)
      · cases hmem
    · show Value.bool _ = Value.bool _
      rw [List.size_toArray, hlen its rv, L2.any_range]
  · obtain ⟨its, rv, hl, _⟩ := I.tuple hs
    rw [Vals.ref1 r]
    refine call_any_walk (iter_anyT (show s.heap.IsTuple a its.toArray from hl) fun s₂ e2 st hne => ?_)
    subst e2
    refine ⟨_, _, _, _, _, _, _, rfl, Walks.tuple (A := X.A.in1) (I.ok.hd hc) _ a hne its.toArray, st, truth_flat rv hr hf, fun h' tk hk => ?_⟩
    refine ⟨.bl _, H, I.kept fun b o eo => hk b o (fun hmem => ?_) (Heap.get?_push_of_some _ eo), ?_, q⟩
    · rcases List.mem_cons.mp hmem with e1 | hmem
      · exact absurd (e1 ▸ Heap.lt_size eo) (Nat.lt_irrefl _)
      · cases hmem
    · show Value.bool _ = Value.bool _
      rw [List.size_toArray, hlen its rv, L2.any_range]
theorem cr_allA (hc : X.calm = true) : CallR X (.builtin "all") (rAA X.K fun bs => bs.all id) := by
  intro pins s σ H vs us Q I r h
  obtain ⟨a, xs, B, R, ds, bs, rfl, hs, hr, hf, q⟩ := h
  have hlen : ∀ its : List Value, Vals xs its → its.length = bs.length := fun its rv => by rw [← rv.length, hr.length, (flat_all hf).1]
  rcases hs with hs | hs
  · obtain ⟨its, rv, hl, _⟩ := I.list hs
    rw [Vals.ref1 r]
    refine call_all_walk (iter_any hl.isList fun s₂ e2 st hne => ?_)
    subst e2
    refine ⟨_, _, _, _, _, _, _, rfl, Walks.list (A := X.A.in1) (I.ok.hd hc) _ a hne its.toArray, st, truth_flat rv hr hf, fun h' tk hk => ?_⟩
    refine ⟨.bl _, H, I.kept fun b o eo => hk b o (fun hmem => ?_) (Heap.get?_push_of_some _ eo), ?_, q⟩
    · rcases List.mem_cons.mp hmem with e1 | hmem
      · exact absurd (e1 ▸ Heap.lt_size eo) (Nat.lt_irrefl _)
      · cases hmem
    · show Value.bool _ = Value.bool _
      rw [List.size_toArray, hlen its rv, L2.all_range]
  · obtain ⟨its, rv, hl, _⟩ := I.tuple hs
    rw [Vals.ref1 r]
    refine call_all_walk (iter_anyT (show s.heap.IsTuple a its.toArray from hl) fun s₂ e2 st hne => ?_)
    subst e2
    refine ⟨_, _, _, _, _, _, _, rfl, Walks.tuple (A := X.A.in1) (I.ok.hd hc) _ a hne its.toArray, st, truth_flat rv hr hf, fun h' tk hk => ?_⟩
    refine ⟨.bl _, H, I.kept fun b o eo => hk b o (fun hmem => ?_) (Heap.get?_push_of_some _ eo), ?_, q⟩
    · rcases List.mem_cons.mp hmem with e1 | hmem
      · exact absurd (e1 ▸ Heap.lt_size eo) (Nat.lt_irrefl _)
      · cases hmem
    · show Value.bool _ = Value.bool _
      rw [List.size_toArray, hlen its rv, L2.all_range]
theorem ints_of : ∀ {ds : List D} {ns : List Int}, intsD ds = some ns → ds = ns.map D.int
  | [], ns, h => by simp only [intsD, Option.some.injEq] at h; subst h; rfl
  | d :: ds, ns, h => by
    cases d <;> simp only [intsD] at h <;> first | cases h; done | skip
    rename_i i
    cases e : intsD ds with
    | none => rw [e] at h; cases h
    | some ms =>
      rw [e] at h
      simp only [Option.map_some, Option.some.injEq] at h
      subst h
      rw [ints_of e]; rfl
def Bf.v : Bf → Value
  | .len => .builtin "len" | .all => .builtin "all" | .any => .builtin "any" | .tuple => .type "tuple" | .list => .type "list" | .int => .type "int" | .abs => .builtin "abs" | .sum => .builtin "sum"
theorem b_ok (f : Bf) (hc : X.calm = true) {vs : List V} {ds : List D} (s : Same R H) (b : BagOk B R H) (hr : RdAll X.K B R vs ds) (h : bD f ds W) (t : To X.K B R H W Q) : wpc X f.v vs H Q := by
  cases ds with
  | nil => cases f <;> exact False.elim h
  | cons d ds =>
  cases ds with
  | cons d2 ds => cases f <;> cases d <;> exact False.elim h
  | nil =>
  obtain ⟨v, rfl, r⟩ := rdall1 hr
  cases f with
  | len =>
    cases d <;> first | exact False.elim h | skip
    · cases r
      exact of_cr call_len ⟨_, _, rfl, ⟨h.1, rfl⟩, t.here s b (.int _) h.2⟩
    · cases r with
      | tup q r =>
      exact of_cr call_len ⟨_, _, rfl, .inr ⟨_, sqT_mono s q, rfl⟩, by rw [r.length]; exact t.here s b (.int _) h⟩
    · cases r with
      | lst q r =>
      exact of_cr call_len ⟨_, _, rfl, .inl ⟨_, SqL.of (s _ _ q), rfl⟩, by rw [r.length]; exact t.here s b (.int _) h⟩
    · cases r with
      | dct q r =>
      exact of_cr call_lenD ⟨_, _, rfl, s _ _ q, by rw [rdkv_len r]; exact t.here s b (.int _) h⟩
  | all =>
    cases d <;> first | exact False.elim h | skip
    · rename_i xs
      cases r with
      | tup q r =>
      cases e : flatTs xs with
      | none => simp only [bD, e] at h
      | some bs => simp only [bD, e] at h; exact of_cr (cr_allA hc) ⟨_, _, B, R, _, _, rfl, .inr (sqT_mono s q), r, e, t.here s b (.bl _) h⟩
    · rename_i xs
      cases r with
      | lst q r =>
      cases e : flatTs xs with
      | none => simp only [bD, e] at h
      | some bs => simp only [bD, e] at h; exact of_cr (cr_allA hc) ⟨_, _, B, R, _, _, rfl, .inl (SqL.of (s _ _ q)), r, e, t.here s b (.bl _) h⟩
  | any =>
    cases d <;> first | exact False.elim h | skip
    · rename_i xs
      cases r with
      | tup q r =>
      cases e : flatTs xs with
      | none => simp only [bD, e] at h
      | some bs => simp only [bD, e] at h; exact of_cr (cr_anyA hc) ⟨_, _, B, R, _, _, rfl, .inr (sqT_mono s q), r, e, t.here s b (.bl _) h⟩
    · rename_i xs
      cases r with
      | lst q r =>
      cases e : flatTs xs with
      | none => simp only [bD, e] at h
      | some bs => simp only [bD, e] at h; exact of_cr (cr_anyA hc) ⟨_, _, B, R, _, _, rfl, .inl (SqL.of (s _ _ q)), r, e, t.here s b (.bl _) h⟩
  | tuple =>
    cases d <;> first | exact False.elim h | skip
    · cases r with
      | tup q r => exact of_cr call_tuple_of ⟨_, _, rfl, .inr ⟨sqT_mono s q, t.here s b (.tup q r) h⟩⟩
    · cases r with
      | lst q r => exact of_cr call_tuple_of ⟨_, _, rfl, .inl ⟨SqL.of (s _ _ q), t.tup s b r h⟩⟩
  | list =>
    cases d <;> first | exact False.elim h | skip
    · cases r with
      | tup q r => exact of_cr call_list_of ⟨_, _, rfl, .inr (sqT_mono s q), t.lst s b r h⟩
    · cases r with
      | lst q r => exact of_cr call_list_of ⟨_, _, rfl, .inl (SqL.of (s _ _ q)), t.lst s b r h⟩
  | int =>
    cases d <;> first | exact False.elim h | skip
    cases r
    exact of_cr call_int1 (.inl ⟨_, rfl, t.here s b (.int _) h⟩)
  | abs =>
    cases d <;> first | exact False.elim h | skip
    cases r
    exact of_cr call_abs ⟨_, rfl, t.here s b (.int _) h⟩
  | sum =>
    cases d <;> first | exact False.elim h | skip
    rename_i xs
    cases e : intsD xs with
    | none => simp only [bD, e] at h
    | some ns =>
      simp only [bD, e] at h
      have e' := ints_of e
      subst e'
      cases r with
      | lst q r =>
      have e2 := r.ints
      subst e2
      exact of_cr (cr_sum hc) ⟨_, _, rfl, SqL.of (s _ _ q), t.here s b (.int _) h⟩

/-! ### subscripts, slices -/
theorem atI_rd {K : PySem.W.Frag} {xs : List V} {ds : List D} (r : RdAll K B R xs ds) {i : Int} {d : D} (h : atI ds i = some d) : ∃ v, atI xs i = some v ∧ Rd K B R v d := by
  unfold atI at h ⊢
  rw [← r.length] at h
  cases e : ixN xs.length i with
  | none => rw [e] at h; cases h
  | some j =>
    rw [e] at h
    exact r.get' h
theorem sub_r (s : Same R H) (b : BagOk B R H) (hx : Rd X.K B R x d) (hy : Rd X.K B R y e) (h : subD d e W) (t : To X.K B R H W Q) : rIx X.K x y H Q := by
  cases d <;> cases e <;> first | exact False.elim h | skip
  · cases hx; cases hy
    rename_i z i
    obtain ⟨h1, h2⟩ := h
    cases e1 : atI z.cps.toList i with
    | none => simp only [e1] at h2
    | some c => simp only [e1] at h2; exact .inr (.inr ⟨_, _, _, rfl, rfl, h1, e1, t.here s b (.str _) h2⟩)
  · cases hy
    rename_i xs i
    cases hx with
    | tup q r =>
    cases e1 : atI xs i with
    | none => simp only [subD, e1] at h
    | some c =>
      simp only [subD, e1] at h
      obtain ⟨v, e2, rv⟩ := atI_rd r e1
      exact .inr (.inl ⟨_, _, _, _, rfl, rfl, sqT_mono s q, e2, t.here s b rv h⟩)
  · cases hy
    rename_i xs i
    cases hx with
    | lst q r =>
    cases e1 : atI xs i with
    | none => simp only [subD, e1] at h
    | some c =>
      simp only [subD, e1] at h
      obtain ⟨v, e2, rv⟩ := atI_rd r e1
      exact .inl ⟨_, _, _, _, rfl, rfl, SqL.of (s _ _ q), e2, t.here s b rv h⟩
theorem cut_rd {K : PySem.W.Frag} {xs : List V} {ds : List D} (r : RdAll K B R xs ds) (lo hi : Option Int) : RdAll K B R (cutV xs lo hi) (cutD ds lo hi) := by
  unfold cutV cutD
  rw [r.length]
  exact (r.drop _).take _
def rSlAny (K : PySem.W.Frag) : V → Option Int → Option Int → Hp → VK → Prop := fun x lo hi H Q => rSlL K x lo hi H Q ∨ rSlA K x lo hi H Q
theorem sl_any : SlR X (rSlAny X.K) := sl_list.or sl_tupA
theorem sl_r {lo hi : Option Int} (s : Same R H) (b : BagOk B R H) (hx : Rd X.K B R x d) (h : slD d lo hi W) (t : To X.K B R H W Q) : rSlAny X.K x lo hi H Q := by
  cases d <;> first | exact False.elim h | skip
  · rename_i ds
    cases hx with
    | @tup a xs _ q r =>
    refine .inr ⟨_, _, rfl, sqT_mono s q, fun hw => ?_, fun _ => t.tup s b (cut_rd r lo hi) h⟩
    refine t.here s b (.tup q r) ?_
    have h' : W (.tup (cutD ds lo hi)) := h
    unfold cutD at h'
    rw [← r.length, hw.1, hw.2] at h'
    simpa [r.length] using h'
  · cases hx with
    | @lst a xs ds q r => exact .inl ⟨_, _, rfl, SqL.of (s _ _ q), t.lst s b (cut_rd r lo hi) h⟩
end
end DL
set_option maxHeartbeats 4000000
/-! DL: the terms mean what the text does. -/
namespace DL
open PySem PySem.Spec PyProof.Rows L2

/-- what a def promises, over data -/
def spD (K : PySem.W.Frag) (sp : List D → (D → Prop) → Prop) : Sp := fun vs H Q _ => ∃ (B : Addr) (R : Hp) (ds : List D) (W : D → Prop), Same R H ∧ BagOk B R H ∧ RdAll K B R vs ds ∧ sp ds W ∧ To K B R H W Q
def blN : List Str := ["len", "all", "any", "tuple", "list", "int", "abs", "sum", "isinstance", "range", "zip", "enumerate", "bool", "str", "dict"]
/-- how a call by keywords binds -/
structure KB (K : PySem.W.Frag) (fd : FuncData) (ps : List Str) (n : Nat) (ks : List Str) (pm : List (Nat ⊕ D)) : Prop where
  ex : ∃ (g : List Value → List Value → List Value) (gV : List V → List V → List V), KBn K fd ps n ks g gV ∧
    ∀ (B : Addr) (R : Hp) (vs zs : List V) (ds es : List D), RdAll K B R vs ds → RdAll K B R zs es → ds.length = n → es.length = ks.length → RdAll K B R (gV vs zs) (permD pm ds es)
structure SgOk (Γ : Sg) (k : Nat) (P : Program) (w : World) (K : PySem.W.Frag) (mg : Str → Option Value) (base : Heap) : Prop where
  fn : ∀ x r, Γ.fn x = some r → ∃ (f : Addr) (fd : FuncData), mg x = some (.ref f) ∧ PySem.W.keepIn K (.ref f) = true ∧ Binds K fd r.ps [] ∧ FnOk P w K mg base CX0 k f fd r.ps (spD K r.sp) ∧
    ∀ (j : Nat) (q : Nat × List Str × List (Nat ⊕ D)), r.kw[j]? = some q → KB K fd r.ps q.1 q.2.1 q.2.2
  bl : ∀ x, x ∈ blN → mg x = none
  gl : ∀ x d, Γ.gl x = some d → ∃ (v : V) (u : Value), mg x = some u ∧ RelV v u ∧ ∀ B R, Rd K B R v d
structure StX (Γ : Sg) (k : Nat) (N : List Str) (sc st : Scope) (X : Cx) : Prop where
  hN : X.N = N
  hs : X.env.scope = sc
  kd : sc.kind = .function
  nd : N.Nodup
  calm : X.calm = true
  room : Room k X.A
  fn : ∀ x, Loc st x → Loc sc x ∧ (X.fn x = true ∨ sc.names.lookup x = some .local)
  sg : SgOk Γ k X.prog X.w X.K X.mg X.base

theorem relS_eq (scope : Scope) (env : Env) : relabel scope env = relS scope env.scope := rfl
theorem relS_cell {sc : Scope} : ∀ {names : List (Str × NameKind)} {x : Str}, names.lookup x = some .cell →
    (names.map fun (n, k) => if (k == NameKind.free && sc.kind == .function && sc.names.lookup n == some .cell) then (n, NameKind.cell) else (n, k)).lookup x = some .cell
  | [], _, h => by simp at h
  | (n, k) :: r, x, h => by
    show List.lookup x ((if (k == NameKind.free && sc.kind == .function && sc.names.lookup n == some .cell) = true then (n, NameKind.cell) else (n, k)) :: _) = _
    by_cases e : x = n
    · subst e
      have hk : k = .cell := by simpa [List.lookup] using h
      subst hk
      split <;> simp [List.lookup]
    · have e' : (x == n) = false := by simpa using e
      have h' : r.lookup x = some .cell := by simpa [List.lookup, e'] using h
      have ih := relS_cell (sc := sc) h'
      split <;> (simp only [List.lookup, e']; exact ih)
theorem relS_local {sc : Scope} : ∀ {names : List (Str × NameKind)} {x : Str}, names.lookup x = some .local →
    (names.map fun (n, k) => if (k == NameKind.free && sc.kind == .function && sc.names.lookup n == some .cell) then (n, NameKind.cell) else (n, k)).lookup x = some .local
  | [], _, h => by simp at h
  | (n, k) :: r, x, h => by
    show List.lookup x ((if (k == NameKind.free && sc.kind == .function && sc.names.lookup n == some .cell) = true then (n, NameKind.cell) else (n, k)) :: _) = _
    by_cases e : x = n
    · subst e
      have hk : k = .local := by simpa [List.lookup] using h
      subst hk
      split
      · rename_i hh; simp at hh
      · simp [List.lookup]
    · have e' : (x == n) = false := by simpa using e
      have h' : r.lookup x = some .local := by simpa [List.lookup, e'] using h
      have ih := relS_local (sc := sc) h'
      split <;> (simp only [List.lookup, e']; exact ih)
section
variable {Γ : Sg} {k : Nat} {N : List Str} {sc st : Scope} {X : Cx}
theorem StX.hu (S : StX Γ k N sc st X) : X.A.units + 64 < cLine := S.room.units
theorem StX.glob (S : StX Γ k N sc st X) {x : Str} (h : globB sc x = true) : Gl X x ∧ (x == ("__debug__" : Str)) = false := by
  unfold globB at h
  simp only [Bool.and_eq_true, Bool.not_eq_true'] at h
  refine ⟨?_, h.2⟩
  show X.env.scope.names.lookup x = _
  rw [S.hs]
  have h1 := h.1
  split at h1
  · assumption
  · cases h1
theorem StX.vis (S : StX Γ k N sc st X) {x : Str} (h : visB sc x = true) : Vis X.env.scope x := by
  rw [S.hs]
  unfold visB at h
  split at h
  · exact .inl (by assumption)
  · exact .inr (.inl (by assumption))
  · exact .inr (.inr (by assumption))
  · cases h
theorem loc_of {sc : Scope} {x : Str} (h : locB sc x = true) : Loc sc x := by
  unfold locB at h
  split at h
  · exact .inl (by assumption)
  · exact .inr (by assumption)
  · cases h
theorem StX.loc (S : StX Γ k N sc st X) {x : Str} (h : locB st x = true) : Loc X.env.scope x ∧ (X.fn x = true ∨ X.env.scope.names.lookup x = some .local) := by
  rw [S.hs]
  exact S.fn x (loc_of h)
theorem StX.blk (S : StX Γ k N sc st X) {scope : Scope} (hk : scope.kind = .function) (s : Shared) (H : Hp) (C : Addr) (cl : List (Str × Addr)) (fp : List Addr) :
    StX Γ k N (relS scope sc) scope (X.blk s H scope (compEnvC scope cl C X.env) fp) := by
  refine ⟨S.hN, ?_, hk, S.nd, S.calm, S.room, fun x l => ?_, S.sg⟩
  · show relabel scope X.env = _
    rw [relS_eq, S.hs]
  · rcases l with l | l
    · exact ⟨.inl (relS_local l), .inr (relS_local l)⟩
    · refine ⟨.inr (relS_cell l), .inl ?_⟩
      show (scope.names.lookup x == some .cell) = true
      rw [l]; rfl
end

/-! ### argument lists -/
theorem star_cons {e : Expr} (h : isStar e = false) (es : List Expr) (env : Env) : starEach (e :: es) env = (false, eval e env) :: starEach es env := by
  cases e <;> first | rfl | (simp [isStar] at h)
def noStar (es : List Expr) : Bool := es.all fun e => !isStar e
theorem noStar_cons {e : Expr} {es : List Expr} (h : noStar (e :: es) = true) : isStar e = false ∧ noStar es = true := by
  simpa [noStar] using h
theorem back_star {pos : Pos} {env : Env} : ∀ {es : List Expr}, noStar es = true → (backTo pos (starEach es env)).any (·.1) = false
  | [], _ => rfl
  | e :: es, h => by
    obtain ⟨h1, h2⟩ := noStar_cons h
    rw [star_cons h1]
    show (false || (backTo pos (starEach es env)).any (·.1)) = false
    rw [back_star h2]; rfl
theorem chk_star {N : List Str} {sc : Scope} : ∀ {as : CEs} {es : List Expr}, chkEs N sc as es = true → noStar es = true ∧ as.len = es.length
  | .nil, [], _ => ⟨rfl, rfl⟩
  | .nil, _ :: _, h => by simp [chkEs] at h
  | .cons _ _, [], h => by simp [chkEs] at h
  | .cons a as, e :: es, h => by
    simp only [chkEs, Bool.and_eq_true, Bool.not_eq_true'] at h
    obtain ⟨h1, h2⟩ := chk_star h.2
    exact ⟨by simp only [noStar, List.all_cons, h.1.1, Bool.not_false, Bool.true_and]; exact h1, by simp [CEs.len, h2]⟩

/-! ### what is walked -/
structure ItOk (K : PySem.W.Frag) (B : Addr) (R : Hp) (J : It) (xs : List D) : Prop where
  ex : ∃ (G : Hp → Prop) (Y : Nat → Hp → V → Hp → Prop), Walk J xs.length G Y ∧ (∀ Rc Hc, Same R Rc → Same Rc Hc → G Hc) ∧
    ∀ i Rc Hc x Hc', Same R Rc → Same Rc Hc → BagOk B Rc Hc → Y i Hc x Hc' → ∃ d Rc', xs[i]? = some d ∧ Nx B Rc Hc Rc' Hc' ∧ Rd K B Rc' x d
section
variable {K : PySem.W.Frag} {B : Addr} {R : Hp}
theorem it_list {a : Addr} {xs : List V} {ds : List D} (q : R a = some (.lst xs)) (r : RdAll K B R xs ds) : ItOk K B R (Itl K a) ds := by
  refine ⟨fun H => SqL K H a xs, YAt xs, ?_, fun Rc Hc s1 s2 => SqL.of (s2 _ _ (s1 _ _ q)), fun i Rc Hc x Hc' s1 s2 b y => ?_⟩
  · rw [← r.length]; exact walk_list (xs := xs)
  · obtain ⟨rfl, y⟩ := y
    obtain ⟨d, hd, rd⟩ := r.get y
    exact ⟨d, Rc, hd, Nx.refl s2 b, rd.mono s1⟩
theorem it_tup {a : Addr} {xs : List V} {ds : List D} (q : SqT K R a xs) (r : RdAll K B R xs ds) : ItOk K B R (Itt K a) ds := by
  refine ⟨fun H => SqT K H a xs, YAt xs, ?_, fun Rc Hc s1 s2 => sqT_mono s2 (sqT_mono s1 q), fun i Rc Hc x Hc' s1 s2 b y => ?_⟩
  · rw [← r.length]; exact walk_tup (xs := xs)
  · obtain ⟨rfl, y⟩ := y
    obtain ⟨d, hd, rd⟩ := r.get y
    exact ⟨d, Rc, hd, Nx.refl s2 b, rd.mono s1⟩
theorem rng_len (lo : Int) (n : Nat) : (rngD lo n).length = n := by simp [rngD]
theorem it_rng {lo : Int} {n : Nat} : ItOk K B R (Itr lo n) (rngD lo n) := by
  refine ⟨(fun _ => True), (fun i H x H' => i < n ∧ H' = H ∧ x = .int (lo + i)), ⟨fun i H hi _ => by rw [rng_len] at hi; exact hi, fun H _ => by show n ≤ _; rw [rng_len]; exact Nat.le_refl _, fun i H x H' hi _ y => ⟨by rw [rng_len] at hi; exact hi, y⟩⟩, fun _ _ _ _ => trivial, fun i Rc Hc x Hc' s1 s2 b y => ?_⟩
  obtain ⟨hi, rfl, rfl⟩ := y
  refine ⟨.int (lo + i), Rc, ?_, Nx.refl s2 b, .int _⟩
  simp [rngD, hi]
theorem pair_yield {Rc Hc Hc' : Hp} {x : V} {u v : V} {d e : D} {T : Addr} (s : Same Rc Hc) (b : BagOk B Rc Hc) (hT : Hc T = none) (hx : x = .ref T) (hH : Hc' = upd Hc T (.tup [u, v])) (h1 : Rd K B Rc u d) (h2 : Rd K B Rc v e) :
    ∃ Rc', Nx B Rc Hc Rc' Hc' ∧ Rd K B Rc' x (.tup [d, e]) := by
  subst hx hH
  have n := Nx.new s b hT (.tup [u, v])
  exact ⟨_, n, .tup (SqT.of upd_same) (.cons (h1.mono n.r) (.cons (h2.mono n.r) .nil))⟩
theorem zip_len (xs ys : List D) : (zipD xs ys).length = min xs.length ys.length := by simp [zipD]
theorem zip_get {xs ys : List D} {i : Nat} {d e : D} (h1 : xs[i]? = some d) (h2 : ys[i]? = some e) : (zipD xs ys)[i]? = some (.tup [d, e]) := by
  unfold zipD
  rw [List.getElem?_zipWith, h1, h2]
theorem it_zip {a c : Addr} {xs ys : List V} {ds es : List D} (q1 : R a = some (.lst xs)) (r1 : RdAll K B R xs ds) (q2 : R c = some (.lst ys)) (r2 : RdAll K B R ys es) : ItOk K B R (Itz K a c) (zipD ds es) := by
  refine ⟨_, _, walk_zip (xs := xs) (ys := ys) (by rw [zip_len, r1.length, r2.length]), fun Rc Hc s1 s2 => ⟨SqL.of (s2 _ _ (s1 _ _ q1)), SqL.of (s2 _ _ (s1 _ _ q2))⟩, fun i Rc Hc x Hc' s1 s2 b y => ?_⟩
  obtain ⟨T, u, v, e1, e2, e3, e4, e5⟩ := y
  obtain ⟨d, hd, rd⟩ := r1.get e4
  obtain ⟨e, he, re⟩ := r2.get e5
  obtain ⟨Rc', n, r⟩ := pair_yield s2 b e2 e1 e3 (rd.mono s1) (re.mono s1)
  exact ⟨_, Rc', zip_get hd he, n, r⟩
theorem walk_zipT {a b : Addr} {xs ys : List V} {n : Nat} (hn : n = min xs.length ys.length) : Walk (RZ.ItzT K a b) n (fun H => SqT K H a xs ∧ SqT K H b ys) (YPair (fun i => xs[i]?) (fun i => ys[i]?)) := by
  subst hn
  refine ⟨fun i _ hi q => ?_, fun _ q => ⟨xs, ys, q.1, q.2, by omega⟩, fun i H v H' _ q y => ?_⟩
  · have h1 : i < xs.length := by omega
    have h2 : i < ys.length := by omega
    exact ⟨xs, ys, xs[i], ys[i], q.1, q.2, by simp [h1], by simp [h2]⟩
  · obtain ⟨T, x, z, h1, h2, h3, h4, h5⟩ := y
    exact ⟨T, x, z, h1, h2, h3, h4 xs q.1, h5 ys q.2⟩
theorem it_zipT {a c : Addr} {xs ys : List V} {ds es : List D} (q1 : SqT K R a xs) (r1 : RdAll K B R xs ds) (q2 : SqT K R c ys) (r2 : RdAll K B R ys es) : ItOk K B R (RZ.ItzT K a c) (zipD ds es) := by
  refine ⟨_, _, walk_zipT (xs := xs) (ys := ys) (by rw [zip_len, r1.length, r2.length]), fun Rc Hc s1 s2 => ⟨sqT_mono s2 (sqT_mono s1 q1), sqT_mono s2 (sqT_mono s1 q2)⟩, fun i Rc Hc x Hc' s1 s2 b y => ?_⟩
  obtain ⟨T, u, v, e1, e2, e3, e4, e5⟩ := y
  obtain ⟨d, hd, rd⟩ := r1.get e4
  obtain ⟨e, he, re⟩ := r2.get e5
  obtain ⟨Rc', n, r⟩ := pair_yield s2 b e2 e1 e3 (rd.mono s1) (re.mono s1)
  exact ⟨_, Rc', zip_get hd he, n, r⟩
theorem enum_get {xs : List D} {i : Nat} {d : D} (h : xs[i]? = some d) : (enumD xs)[i]? = some (.tup [.int (i : Nat), d]) := by
  have hi := (List.getElem?_eq_some_iff.mp h).1
  unfold enumD
  rw [List.getElem?_zipWith, h, List.getElem?_range hi]
theorem it_enum {a : Addr} {xs : List V} {ds : List D} (q : R a = some (.lst xs)) (r : RdAll K B R xs ds) : ItOk K B R (Ite K a) (enumD ds) := by
  have hl : (enumD ds).length = xs.length := by simp [enumD, r.length]
  refine ⟨_, _, by rw [hl]; exact walk_enum (xs := xs), fun Rc Hc s1 s2 => SqL.of (s2 _ _ (s1 _ _ q)), fun i Rc Hc x Hc' s1 s2 b y => ?_⟩
  obtain ⟨T, u, v, e1, e2, e3, e4, e5⟩ := y
  obtain ⟨d, hd, rd⟩ := r.get e5
  cases e4
  obtain ⟨Rc', n, r'⟩ := pair_yield s2 b e2 e1 e3 (.int (i : Nat)) (rd.mono s1)
  exact ⟨_, Rc', enum_get hd, n, r'⟩
end

/-! ### targets -/
section
variable {Γ : Sg} {k : Nat} {N : List Str} {sc st : Scope} {X : Cx} {B : Addr} {R0 H0 R H : Hp} {σ : L2.St} {ρ : List Sl}
theorem name_ok (S : StX Γ k N sc st X) {i : Nat} {e : Expr} (h : chkName N st i e = true) : PG X e (gName i) := by
  cases e <;> first | (simp [chkName] at h; done) | skip
  rename_i x pos
  simp only [chkName, Bool.and_eq_true, decide_eq_true_eq] at h
  obtain ⟨l1, l2⟩ := S.loc h.2
  exact pg_name (by rw [S.hN]; exact S.nd) (by rw [S.hN]; exact h.1) l1 l2
def setAllV (σ : L2.St) : List Nat → List V → L2.St
  | i :: is, d :: ds => setAllV (σ.set i (some d)) is ds
  | _, _ => σ
theorem setAll_ok {K : PySem.W.Frag} : ∀ {is : List Nat} {vs : List V} {ds : List D} {σ : L2.St} {ρ : List Sl}, Ok K B R0 H0 R H σ ρ → RdAll K B R vs ds → Ok K B R0 H0 R H (setAllV σ is vs) (setAll ρ is ds)
  | [], _, _, _, _, o, _ => by unfold setAllV setAll; exact o
  | i :: is, _, _, _, _, o, .nil => by simp only [setAllV, setAll]; exact o
  | i :: is, _, _, _, _, o, .cons a r => by simp only [setAllV, setAll]; exact setAll_ok (o.set i a) r
theorem names_ok (S : StX Γ k N sc st X) : ∀ {is : List Nat} {es : List Expr}, chkNames N st is es = true → PGs X es (fun vs σ H Q => vs.length = is.length ∧ Q (setAllV σ is vs) H) ∧ (assignEach es X.env).length = is.length ∧ (assignEach es X.env).findIdx? (·.1) = none
  | [], [], _ => by
    refine ⟨⟨fun pins s σ H vs us Q I r h => ?_⟩, rfl, rfl⟩
    obtain ⟨hl, h⟩ := h
    have e : vs = [] := List.eq_nil_of_length_eq_zero hl
    subst e
    exact pgs_nil.run pins s σ H [] us Q I r ⟨rfl, h⟩
  | [], _ :: _, h => by simp [chkNames] at h
  | _ :: _, [], h => by simp [chkNames] at h
  | i :: is, e :: es, h => by
    simp only [chkNames, Bool.and_eq_true] at h
    obtain ⟨h2, h3, h4⟩ := names_ok S h.2
    have h1 := name_ok S h.1
    have he : ∃ x pos, e = .Name x pos := by
      cases e <;> first | (simp [chkName] at h; done) | exact ⟨_, _, rfl⟩
    obtain ⟨x, pos, rfl⟩ := he
    refine ⟨⟨fun pins s σ H vs us Q I r hq => ?_⟩, by show (assignEach es X.env).length + 1 = _; rw [h3]; rfl, ?_⟩
    · obtain ⟨hl, hq⟩ := hq
      cases vs with
      | nil => simp at hl
      | cons v vs =>
        exact (pgs_cons h1 h2).run pins s σ H (v :: vs) us Q I r ⟨v, vs, rfl, by simpa using hl, hq⟩
    · show List.findIdx? (·.1) ((false, _) :: assignEach es X.env) = none
      rw [List.findIdx?_cons]
      simp only [Bool.false_eq_true, if_false, h4, Option.map_none]
def tgEff (tg : Tg) (σ : L2.St) (v : V) (σ' : L2.St) : Prop := match tg with
  | .one i => σ' = σ.set i (some v)
  | .tup is => ∃ vs, σ' = setAllV σ is vs
theorem tg_ok (S : StX Γ k N sc st X) {tg : Tg} {e : Expr} (h : chkTg N st tg e = true) {v : V} {d : D} {W : List Sl → Prop} {Q : L2.St → Hp → Prop} (o : Ok X.K B R0 H0 R H σ ρ) (r : Rd X.K B R v d) (hb : bindT tg d ρ W)
    (t : ∀ σ' ρ', Ok X.K B R0 H0 R H σ' ρ' → tgEff tg σ v σ' → W ρ' → Q σ' H) : wpg X e v σ H Q := by
  cases tg with
  | one i => exact of_pg (name_ok S h) (t _ _ (o.set i r) rfl hb)
  | tup is =>
    cases e <;> first | (simp [chkTg] at h; done) | skip
    rename_i es kk pos
    obtain ⟨h1, h2, h3⟩ := names_ok S h
    cases d <;> first | exact False.elim hb | skip
    rename_i ds
    obtain ⟨hl, hb⟩ := hb
    cases r with
    | @tup a xs _ q r =>
    exact of_pg (pg_tup S.calm h1 h2 h3) ⟨a, xs, rfl, sqT_mono o.sub q, by rw [r.length, hl], by rw [r.length, hl], t _ _ (setAll_ok o r) ⟨_, rfl⟩ hb⟩
theorem wipe_set {i : Nat} {v : Option V} : ∀ {vs : List Nat} {σ : L2.St}, i ∈ vs → wipe (σ.set i v) vs = wipe σ vs
  | [], _, h => by cases h
  | j :: vs, σ, h => by
    unfold wipe
    by_cases e : i ∈ vs
    · rw [wipe_set e]
    · have e' : i = j := by
        rcases List.mem_cons.mp h with z | z
        · exact z
        · exact absurd z e
      subst e'
      rw [wipe_out_set e]
      exact List.set_set ..
where
  wipe_out_set {i : Nat} {v : Option V} : ∀ {vs : List Nat} {σ : L2.St}, i ∉ vs → wipe (σ.set i v) vs = (wipe σ vs).set i v
    | [], _, _ => rfl
    | j :: vs, σ, h => by
      have h1 : i ≠ j := fun e => h (by rw [e]; exact List.mem_cons_self)
      have h2 : i ∉ vs := fun m => h (List.mem_cons_of_mem _ m)
      unfold wipe
      rw [wipe_out_set h2, List.set_comm _ _ h1]
theorem wipe_idem : ∀ {vs ws : List Nat} {σ : L2.St}, (∀ i, i ∈ ws → i ∈ vs) → wipe (wipe σ ws) vs = wipe σ vs
  | vs, [], _, _ => rfl
  | vs, j :: ws, σ, h => by
    show wipe ((wipe σ ws).set j none) vs = _
    rw [wipe_set (h j List.mem_cons_self)]
    exact wipe_idem fun i hi => h i (List.mem_cons_of_mem _ hi)
theorem wipe_setAll {vs : List Nat} : ∀ {is : List Nat} {xs : List V} {σ : L2.St}, (∀ i, i ∈ is → i ∈ vs) → wipe (setAllV σ is xs) vs = wipe σ vs
  | [], _, _, _ => by unfold setAllV; rfl
  | i :: is, [], _, _ => rfl
  | i :: is, x :: xs, σ, h => by
    show wipe (setAllV (σ.set i (some x)) is xs) vs = _
    rw [wipe_setAll fun j hj => h j (List.mem_cons_of_mem _ hj), wipe_set (h i List.mem_cons_self)]
end
theorem Nx.own_write {B : Addr} {R H R' H' : Hp} (x : Nx B R H R' H') {D : Addr} {o : HO} (h1 : H D = none) (h2 : R' D = none) (h3 : B ≠ D) : Nx B R H R' (upd H' D o) := by
  refine ⟨x.r, fun b u h => ?_, fun b u h hb => ?_, x.n, fun h => ?_, ?_⟩
  · rw [upd_ne (ne_of_none h h2)]; exact x.s b u h
  · rw [upd_ne (ne_of_none h h1)]; exact x.h b u h hb
  · rw [upd_ne h3]; exact x.l h
  · obtain ⟨hB, L, ns, i, c, m, k, q1, q2, q3⟩ := x.b
    exact ⟨hB, L, ns, i, c, m, k, by rw [upd_ne h3]; exact q1, q2, q3⟩
theorem Nx.freeze {B : Addr} {R H R' H' : Hp} (x : Nx B R H R' H') {D : Addr} {o : HO} (h1 : H D = none) (h2 : R' D = none) (h3 : B ≠ D) (h4 : H' D = some o) : Nx B R H (upd R' D o) H' := by
  refine ⟨fun b u h => ?_, fun b u h => ?_, x.h, fun b h => ?_, x.l, ?_⟩
  · have : b ≠ D := fun e => by subst e; rw [x.r b u h] at h2; cases h2
    rw [upd_ne this]; exact x.r b u h
  · by_cases e : b = D
    · subst e; rw [upd_same] at h; cases h; exact h4
    · rw [upd_ne e] at h; exact x.s b u h
  · have : b ≠ D := fun e => h (by rw [e]; exact h1)
    rw [upd_ne this]; exact x.n b h
  · obtain ⟨hB, L, ns, i, c, m, k, q1, q2, q3⟩ := x.b
    exact ⟨by rw [upd_ne h3]; exact hB, L, ns, i, c, m, k, q1, by rw [upd_ne (ne_of_none q2 h2)]; exact q2, q3⟩
end DL
set_option maxHeartbeats 4000000
namespace DL
open PySem PySem.Spec PyProof.Rows L2

section
variable (Γ : Sg) (k : Nat) (N : List Str)
abbrev SE (ce : CE) : Prop := ∀ (sc st : Scope) (e : Expr), chkE N sc ce e = true → ∀ (X : Cx), StX Γ k N sc st X → ∀ (B : Addr) (R0 H0 R H : Hp) (σ : L2.St) (ρ : List Sl) (W : D → Prop) (Q : VK),
  Ok X.K B R0 H0 R H σ ρ → wE Γ ce ρ W → To X.K B R H W Q → wpt X e σ H Q
abbrev ST (ce : CE) : Prop := ∀ (sc st : Scope) (e : Expr), chkE N sc ce e = true → ∀ (X : Cx), StX Γ k N sc st X → ∀ (B : Addr) (R0 H0 R H : Hp) (σ : L2.St) (ρ : List Sl) (W : D → Prop) (Q : Bool → Hp → Prop),
  Ok X.K B R0 H0 R H σ ρ → wE Γ ce ρ W → (∀ d R' H', Nx B R H R' H' → W d → truD d fun b => Q b H') → wptt X e σ H Q
abbrev SEs (as : CEs) : Prop := ∀ (sc st : Scope) (es : List Expr), chkEs N sc as es = true → ∀ (X : Cx), StX Γ k N sc st X → ∀ (B : Addr) (R0 H0 R H : Hp) (σ : L2.St) (ρ : List Sl) (W : List D → Prop) (Q : List V → Hp → Prop),
  Ok X.K B R0 H0 R H σ ρ → wEs Γ as ρ W → (∀ vs ds R' H', Nx B R H R' H' → RdAll X.K B R' vs ds → ds.length = as.len → W ds → Q vs H') → wpa X es σ H Q
abbrev SKs (as : CEs) : Prop := ∀ (sc st : Scope) (ks : List Str) (es : List Keyword), kwNames ks es = true → chkEs N sc as (kwVals es) = true → ∀ (X : Cx), StX Γ k N sc st X → ∀ (B : Addr) (R0 H0 R H : Hp) (σ : L2.St) (ρ : List Sl) (W : List D → Prop) (Q : List V → Hp → Prop),
  Ok X.K B R0 H0 R H σ ρ → wEs Γ as ρ W → (∀ vs ds R' H', Nx B R H R' H' → RdAll X.K B R' vs ds → ds.length = as.len → W ds → Q vs H') → wpk X es σ H Q
abbrev SO (co : CO) : Prop := ∀ (sc st : Scope) (e : Option Expr), chkO N sc co e = true → ∀ (X : Cx), StX Γ k N sc st X → ∀ (B : Addr) (R0 H0 R H : Hp) (σ : L2.St) (ρ : List Sl) (W : Option Int → Prop) (Q : Option Int → Hp → Prop),
  Ok X.K B R0 H0 R H σ ρ → wO Γ co ρ W → (∀ o R' H', Nx B R H R' H' → W o → Q o H') → ∃ t, PO X e t ∧ t σ H Q
abbrev SC (co : CO) : Prop := ∀ (c : CE), co = .some c → ST Γ k N c
abbrev SI (ci : CI) : Prop := ∀ (sc st : Scope) (e tg : Expr), chkI N sc ci e (isTup tg) = true → ∀ (X : Cx), StX Γ k N sc st X → ∀ (B : Addr) (R0 H0 R H : Hp) (σ : L2.St) (ρ : List Sl) (W : List D → Prop) (Q : It → Hp → Prop),
  Ok X.K B R0 H0 R H σ ρ → wI Γ ci ρ W → (∀ J xs R' H', Nx B R H R' H' → ItOk X.K B R' J xs → (lenOb ci xs → xs.length ≤ sizeLine) → W xs → Q J H') → wpi X tg e σ H Q
end
section
variable {Γ : Sg} {k : Nat} {N : List Str}

theorem st_gen {ce : CE} (h : SE Γ k N ce) (g : ∀ (sc : Scope) (e : Expr), chkE N sc ce e = true → ∀ (env : Env) (whole : Sem Value), isTrue e env whole = (do let v ← whole; standAt e.pos; holding [v] (truthy v))) : ST Γ k N ce := by
  intro sc st e hc X S B R0 H0 R H σ ρ W Q o w t
  refine of_pt (pt_truth (pe_wpt e) (g sc e hc X.env)) ?_
  refine h sc st e hc X S B R0 H0 R H σ ρ W _ o w fun v d R' H' n r hw => ?_
  exact tru_rd n.s r (t d R' H' n hw)

/-! ### atoms -/
theorem se_var (i : Nat) : SE Γ k N (.var i) := by
  intro sc st e hc X S B R0 H0 R H σ ρ W Q o w t
  cases e <;> first | exact absurd hc Bool.false_ne_true | skip
  rename_i x pos
  simp only [chkE, Bool.and_eq_true, decide_eq_true_eq, Bool.not_eq_true'] at hc
  obtain ⟨⟨⟨h1, h2⟩, h3⟩, h4⟩ := hc
  refine of_pe (pe_var (by rw [S.hN]; exact h1) (S.vis h2) h3 h4) ?_
  simp only [wE] at w
  split at w
  · rename_i d hd
    obtain ⟨v, hv, r⟩ := o.sl i _ hd
    exact ⟨v, hv, t.here o.sub o.bag r w⟩
  · exact w.elim
theorem se_int (n : Int) : SE Γ k N (.int n) := by
  intro sc st e hc X S B R0 H0 R H σ ρ W Q o w t
  cases e <;> first | exact absurd hc Bool.false_ne_true | skip
  rename_i c kk pos
  cases c <;> first | exact absurd hc Bool.false_ne_true | skip
  simp only [chkE, decide_eq_true_eq] at hc
  subst hc
  exact of_pe pe_int (t.here o.sub o.bag (.int _) w)
theorem se_str (x : Str) : SE Γ k N (.str x) := by
  intro sc st e hc X S B R0 H0 R H σ ρ W Q o w t
  cases e <;> first | exact absurd hc Bool.false_ne_true | skip
  rename_i c kk pos
  cases c <;> first | exact absurd hc Bool.false_ne_true | skip
  simp only [chkE, decide_eq_true_eq] at hc
  subst hc
  exact of_pe pe_str (t.here o.sub o.bag (.str _) w)
theorem se_bl (x : Bool) : SE Γ k N (.bl x) := by
  intro sc st e hc X S B R0 H0 R H σ ρ W Q o w t
  cases e <;> first | exact absurd hc Bool.false_ne_true | skip
  rename_i c kk pos
  cases c <;> first | exact absurd hc Bool.false_ne_true | skip
  simp only [chkE, decide_eq_true_eq] at hc
  subst hc
  exact of_pe pe_bl (t.here o.sub o.bag (.bl _) w)
theorem se_non : SE Γ k N .non := by
  intro sc st e hc X S B R0 H0 R H σ ρ W Q o w t
  cases e <;> first | exact absurd hc Bool.false_ne_true | skip
  rename_i c kk pos
  cases c <;> first | exact absurd hc Bool.false_ne_true | skip
  exact of_pe pe_non (t.here o.sub o.bag .non w)
theorem se_gl (x : Str) : SE Γ k N (.gl x) := by
  intro sc st e hc X S B R0 H0 R H σ ρ W Q o w t
  cases e <;> first | exact absurd hc Bool.false_ne_true | skip
  rename_i y pos
  simp only [chkE, Bool.and_eq_true, decide_eq_true_eq] at hc
  obtain ⟨rfl, h2⟩ := hc
  obtain ⟨hg, hd⟩ := S.glob h2
  simp only [wE] at w
  split at w
  · rename_i d hgl
    obtain ⟨v, u, hm, r, rd⟩ := S.sg.gl _ _ hgl
    exact of_pe (pe_glob hg hm r hd) (t.here o.sub o.bag (rd B R) w)
  · exact w.elim

/-! ### operators -/
theorem se_bin {op : Bop} {a b : CE} (ha : SE Γ k N a) (hb : SE Γ k N b) : SE Γ k N (.bin op a b) := by
  intro sc st e hc X S B R0 H0 R H σ ρ W Q o w t
  cases e <;> first | exact absurd hc Bool.false_ne_true | skip
  rename_i l op' r pos
  simp only [chkE, Bool.and_eq_true, decide_eq_true_eq] at hc
  obtain ⟨⟨rfl, h1⟩, h2⟩ := hc
  refine of_pe (pe_op (or_wpt _) (pe_wpt l) (pe_wpt r)) ?_
  refine ha sc st l h1 X S B R0 H0 R H σ ρ _ _ o w fun x d R1 H1 n1 rx w1 => ?_
  have o1 := o.nx n1
  refine hb sc st r h2 X S B R0 H0 R1 H1 σ ρ _ _ o1 w1 fun y e R2 H2 n2 ry w2 => ?_
  exact bin_ok op n2.s n2.b (rx.mono n2.r) ry w2 fun v d R' H' n r' hw => t v d R' H' (n1.trans (n2.trans n)) r' hw
theorem se_neg {a : CE} (ha : SE Γ k N a) : SE Γ k N (.neg a) := by
  intro sc st e hc X S B R0 H0 R H σ ρ W Q o w t
  cases e <;> first | exact absurd hc Bool.false_ne_true | skip
  rename_i op l pos
  cases op <;> first | exact absurd hc Bool.false_ne_true | skip
  refine of_pe (pe_un un_neg (pe_wpt l)) ?_
  refine ha sc st l hc X S B R0 H0 R H σ ρ _ _ o w fun x d R1 H1 n1 rx w1 => ?_
  cases d <;> first | exact w1.elim | skip
  cases rx
  exact ⟨_, rfl, t _ _ _ _ n1 (.int _) w1⟩
theorem cop_mark (op : Cop) (b : Expr) : behindInMarks op.op b = false := by
  cases op <;> exact nomark b
theorem se_cmp {op : Cop} {a b : CE} (ha : SE Γ k N a) (hb : SE Γ k N b) : SE Γ k N (.cmp op a b) := by
  intro sc st e hc X S B R0 H0 R H σ ρ W Q o w t
  cases e <;> first | exact absurd hc Bool.false_ne_true | skip
  rename_i l ops rs pos
  rcases ops with _ | ⟨op', _ | ⟨_, _⟩⟩ <;> first | exact absurd hc Bool.false_ne_true | skip
  rcases rs with _ | ⟨r, _ | ⟨_, _⟩⟩ <;> first | exact absurd hc Bool.false_ne_true | skip
  simp only [chkE, Bool.and_eq_true, decide_eq_true_eq] at hc
  obtain ⟨⟨rfl, h1⟩, h2⟩ := hc
  refine of_pe (pe_cmpR (or_wpt _) (pe_wpt l) (pe_wpt r) (cop_mark op r)) ?_
  refine ha sc st l h1 X S B R0 H0 R H σ ρ _ _ o w fun x d R1 H1 n1 rx w1 => ?_
  refine hb sc st r h2 X S B R0 H0 R1 H1 σ ρ _ _ (o.nx n1) w1 fun y e R2 H2 n2 ry w2 => ?_
  exact cmp_ok op S.hu n2.s n2.b (rx.mono n2.r) ry w2 fun kk hk => t _ _ _ _ (n1.trans n2) (.bl kk) hk
theorem st_cmp {op : Cop} {a b : CE} (ha : SE Γ k N a) (hb : SE Γ k N b) : ST Γ k N (.cmp op a b) := by
  intro sc st e hc X S B R0 H0 R H σ ρ W Q o w t
  cases e <;> first | exact absurd hc Bool.false_ne_true | skip
  rename_i l ops rs pos
  rcases ops with _ | ⟨op', _ | ⟨_, _⟩⟩ <;> first | exact absurd hc Bool.false_ne_true | skip
  rcases rs with _ | ⟨r, _ | ⟨_, _⟩⟩ <;> first | exact absurd hc Bool.false_ne_true | skip
  simp only [chkE, Bool.and_eq_true, decide_eq_true_eq] at hc
  obtain ⟨⟨rfl, h1⟩, h2⟩ := hc
  refine of_pt (pt_cmpR (or_wpt _) (pe_wpt l) (pe_wpt r) (cop_mark op r)) ?_
  refine ha sc st l h1 X S B R0 H0 R H σ ρ _ _ o w fun x d R1 H1 n1 rx w1 => ?_
  refine hb sc st r h2 X S B R0 H0 R1 H1 σ ρ _ _ (o.nx n1) w1 fun y e R2 H2 n2 ry w2 => ?_
  exact cmp_ok op S.hu n2.s n2.b (rx.mono n2.r) ry w2 fun kk hk => ⟨kk, rfl, t _ _ _ (n1.trans n2) hk⟩
theorem chain_mark (p q : Cop) (b c : Expr) : lastMarks [p.op, q.op] [b, c] = false := cop_mark q c
theorem chain_r {p q : Cop} {a b c : CE} (ha : SE Γ k N a) (hb : SE Γ k N b) (hcc : SE Γ k N c) {sc st : Scope} {l r r' : Expr} (h1 : chkE N sc a l = true) (h2 : chkE N sc b r = true) (h3 : chkE N sc c r' = true)
    {X : Cx} (S : StX Γ k N sc st X) {B : Addr} {R0 H0 R H : Hp} {σ : L2.St} {ρ : List Sl} {W : D → Prop} {Q : VK} (o : Ok X.K B R0 H0 R H σ ρ) (w : wE Γ (.chain p q a b c) ρ W) (t : ∀ kk R' H', Nx B R H R' H' → W (.bl kk) → Q (.bl kk) H') :
    tChain (wpr X (compareOp p.op)) (wpr X (compareOp q.op)) (wpt X l) (wpt X r) (wpt X r') σ H Q := by
  refine ha sc st l h1 X S B R0 H0 R H σ ρ _ _ o w fun x d R1 H1 n1 rx w1 => ?_
  refine hb sc st r h2 X S B R0 H0 R1 H1 σ ρ _ _ (o.nx n1) w1 fun y e R2 H2 n2 ry w2 => ?_
  refine cmp_ok p S.hu n2.s n2.b (rx.mono n2.r) ry w2 fun kk hk => ⟨kk, rfl, ?_⟩
  cases kk with
  | false => exact iteF (t _ _ _ (n1.trans n2) hk)
  | true =>
    refine iteT ?_
    refine hcc sc st r' h3 X S B R0 H0 R2 H2 σ ρ _ _ ((o.nx n1).nx n2) hk fun z f R3 H3 n3 rz w3 => ?_
    exact cmp_ok q S.hu n3.s n3.b (ry.mono n3.r) rz w3 fun kk hk => t _ _ _ (n1.trans (n2.trans n3)) hk
theorem se_chain {p q : Cop} {a b c : CE} (ha : SE Γ k N a) (hb : SE Γ k N b) (hcc : SE Γ k N c) : SE Γ k N (.chain p q a b c) := by
  intro sc st e hc X S B R0 H0 R H σ ρ W Q o w t
  cases e <;> first | exact absurd hc Bool.false_ne_true | skip
  rename_i l ops rs pos
  rcases ops with _ | ⟨op, _ | ⟨op', _ | ⟨_, _⟩⟩⟩ <;> first | exact absurd hc Bool.false_ne_true | skip
  rcases rs with _ | ⟨r, _ | ⟨r', _ | ⟨_, _⟩⟩⟩ <;> first | exact absurd hc Bool.false_ne_true | skip
  simp only [chkE, Bool.and_eq_true, decide_eq_true_eq] at hc
  obtain ⟨⟨⟨⟨rfl, rfl⟩, h1⟩, h2⟩, h3⟩ := hc
  exact of_pe (pe_chain (or_wpt _) (or_wpt _) (pe_wpt l) (pe_wpt r) (pe_wpt r') (chain_mark p q r r')) (chain_r ha hb hcc h1 h2 h3 S o w fun kk R' H' n hw => t _ _ _ _ n (.bl kk) hw)
theorem st_chain {p q : Cop} {a b c : CE} (ha : SE Γ k N a) (hb : SE Γ k N b) (hcc : SE Γ k N c) : ST Γ k N (.chain p q a b c) := by
  intro sc st e hc X S B R0 H0 R H σ ρ W Q o w t
  cases e <;> first | exact absurd hc Bool.false_ne_true | skip
  rename_i l ops rs pos
  rcases ops with _ | ⟨op, _ | ⟨op', _ | ⟨_, _⟩⟩⟩ <;> first | exact absurd hc Bool.false_ne_true | skip
  rcases rs with _ | ⟨r, _ | ⟨r', _ | ⟨_, _⟩⟩⟩ <;> first | exact absurd hc Bool.false_ne_true | skip
  simp only [chkE, Bool.and_eq_true, decide_eq_true_eq] at hc
  obtain ⟨⟨⟨⟨rfl, rfl⟩, h1⟩, h2⟩, h3⟩ := hc
  exact of_pt (pt_chain (or_wpt _) (or_wpt _) (pe_wpt l) (pe_wpt r) (pe_wpt r') (chain_mark p q r r')) (chain_r ha hb hcc h1 h2 h3 S o w fun kk R' H' n hw => ⟨kk, rfl, t _ _ _ n hw⟩)

/-! ### not, and, or, if -/
theorem pe_notW {X : Cx} {e : Expr} {pos : Pos} {σ : L2.St} {H : Hp} {Q : VK} (h : wpt X e σ H fun x H1 => ∃ c, TruV X.K x H1 c ∧ Q (.bl (!c)) H1) : wpt X (.UnaryOp .Not e pos) σ H Q := fun pins s I => by
  refine UnaryOp_ (thn (h pins s I) fun v s1 ⟨x, H1, I1, r1, q1⟩ => ?_)
  exact not_of (tru_ok pins s1 σ H1 x v (fun c H' => Q (.bl (!c)) H') I1 r1 q1 |> fun z => thn z fun c s2 ⟨H2, I2, q2⟩ => ⟨.bl (!c), H2, I2, rfl, q2⟩)
theorem se_not {a : CE} (ha : SE Γ k N a) : SE Γ k N (.not a) := by
  intro sc st e hc X S B R0 H0 R H σ ρ W Q o w t
  cases e <;> first | exact absurd hc Bool.false_ne_true | skip
  rename_i op l pos
  cases op <;> first | exact absurd hc Bool.false_ne_true | skip
  refine pe_notW ?_
  refine ha sc st l hc X S B R0 H0 R H σ ρ _ _ o w fun x d R1 H1 n1 rx w1 => ?_
  exact tru_rd n1.s rx (truD_imp w1 fun c hw => t _ _ _ _ n1 (.bl _) hw)
theorem st_not {a : CE} (ha : ST Γ k N a) : ST Γ k N (.not a) := by
  intro sc st e hc X S B R0 H0 R H σ ρ W Q o w t
  cases e <;> first | exact absurd hc Bool.false_ne_true | skip
  rename_i op l pos
  cases op <;> first | exact absurd hc Bool.false_ne_true | skip
  refine of_pt (pt_not (pt_wpt l)) ?_
  refine ha sc st l hc X S B R0 H0 R H σ ρ _ _ o w fun d R1 H1 n1 w1 => ?_
  exact truD_imp w1 fun c hw => t _ _ _ n1 hw
theorem bop_2 {N : List Str} {sc : Scope} {kd : Bool} {a b : CE} {e : Expr} (hc : chkE N sc (.bop kd a b) e = true) :
    ∃ (op : BoolOp) (x y : Expr) (r : List Expr) (p : Pos), e = .BoolOp op (x :: y :: r) p ∧ op = (if kd then BoolOp.And else BoolOp.Or) ∧ chkE N sc a x = true ∧ ((r = [] ∧ chkE N sc b y = true) ∨ (r ≠ [] ∧ chkE N sc b (.BoolOp op (y :: r) p) = true)) := by
  cases e <;> first | exact absurd hc Bool.false_ne_true | skip
  rename_i op es p
  rcases es with _ | ⟨x, _ | ⟨y, _ | ⟨z, r⟩⟩⟩ <;> first | exact absurd hc Bool.false_ne_true | skip
  · simp only [chkE, Bool.and_eq_true, decide_eq_true_eq] at hc
    exact ⟨op, x, y, [], p, rfl, hc.1.1, hc.1.2, .inl ⟨rfl, hc.2⟩⟩
  · simp only [chkE, Bool.and_eq_true, decide_eq_true_eq] at hc
    exact ⟨op, x, y, z :: r, p, rfl, hc.1.1, hc.1.2, .inr ⟨by simp, hc.2⟩⟩
/-- the second part of and, or -/
theorem bop_b {kd : Bool} {b : CE} (hb : SE Γ k N b) {sc st : Scope} {op : BoolOp} {y : Expr} {r : List Expr} {p : Pos} (h : (r = [] ∧ chkE N sc b y = true) ∨ (r ≠ [] ∧ chkE N sc b (.BoolOp op (y :: r) p) = true))
    {X : Cx} (S : StX Γ k N sc st X) {B : Addr} {R0 H0 R H : Hp} {σ : L2.St} {ρ : List Sl} {W : D → Prop} {Q : VK} (o : Ok X.K B R0 H0 R H σ ρ) (w : wE Γ b ρ W) (t : To X.K B R H W Q) : wpt X (.BoolOp op (y :: r) p) σ H Q := by
  rcases h with ⟨rfl, h⟩ | ⟨_, h⟩
  · exact of_pe (pe_one (pe_wpt y)) (hb sc st y h X S B R0 H0 R H σ ρ W Q o w t)
  · exact hb sc st _ h X S B R0 H0 R H σ ρ W Q o w t
theorem se_bop {kd : Bool} {a b : CE} (ha : SE Γ k N a) (hb : SE Γ k N b) : SE Γ k N (.bop kd a b) := by
  intro sc st e hc X S B R0 H0 R H σ ρ W Q o w t
  obtain ⟨op, x, y, r, p, rfl, rfl, h1, h2⟩ := bop_2 hc
  intro pins s I
  cases kd with
  | true =>
    refine BoolOp_and (thn ((ha sc st x h1 X S B R0 H0 R H σ ρ _ (fun v H1 => ∃ R1 d, Nx B R H R1 H1 ∧ Rd X.K B R1 v d ∧ truD d fun c => iteP (c == true) (wE Γ b ρ W) (W d)) o w fun x d R1 H1 n1 rx w1 => ⟨R1, d, n1, rx, w1⟩) pins s I) fun v s1 ⟨z, H1, I1, r1, R1, d, n1, rx, w1⟩ => ?_)
    refine thn (tru_ok pins s1 σ H1 z v (fun c H' => H' = H1 ∧ iteP (c == true) (wE Γ b ρ W) (W d)) I1 r1 (tru_rd n1.s rx (truD_imp w1 fun c hw => ⟨rfl, hw⟩))) fun c s2 ⟨H2, I2, e2, q2⟩ => ?_
    subst e2
    cases c with
    | true => exact bop_b (kd := true) hb h2 S (o.nx n1) q2 (fun v d R' H' n r' hw => t _ _ _ _ (n1.trans n) r' hw) pins s2 I2
    | false => exact ⟨z, H2, I2, r1, t _ _ _ _ n1 rx q2⟩
  | false =>
    refine BoolOp_or (thn ((ha sc st x h1 X S B R0 H0 R H σ ρ _ (fun v H1 => ∃ R1 d, Nx B R H R1 H1 ∧ Rd X.K B R1 v d ∧ truD d fun c => iteP (c == false) (wE Γ b ρ W) (W d)) o w fun x d R1 H1 n1 rx w1 => ⟨R1, d, n1, rx, w1⟩) pins s I) fun v s1 ⟨z, H1, I1, r1, R1, d, n1, rx, w1⟩ => ?_)
    refine thn (tru_ok pins s1 σ H1 z v (fun c H' => H' = H1 ∧ iteP (c == false) (wE Γ b ρ W) (W d)) I1 r1 (tru_rd n1.s rx (truD_imp w1 fun c hw => ⟨rfl, hw⟩))) fun c s2 ⟨H2, I2, e2, q2⟩ => ?_
    subst e2
    cases c with
    | false => exact bop_b (kd := true) hb h2 S (o.nx n1) q2 (fun v d R' H' n r' hw => t _ _ _ _ (n1.trans n) r' hw) pins s2 I2
    | true => exact ⟨z, H2, I2, r1, t _ _ _ _ n1 rx q2⟩
abbrev wpw (X : Cx) (e : Expr) : TT := fun σ H Q => ∀ whole pins s, Inv X pins σ H s → wpAny (model X.prog X.w) X.A (isTrue e X.env whole) (TP X pins σ Q) X.xe s
theorem pw_wpt {X : Cx} (e : Expr) : PW X e (wpw X e) := ⟨fun whole pins s σ H Q I h => h whole pins s I⟩
theorem of_pw {X : Cx} {e : Expr} {t : TT} (h : PW X e t) {σ : L2.St} {H : Hp} {Q : Bool → Hp → Prop} (q : t σ H Q) : wpw X e σ H Q := fun whole pins s I => h.run whole pins s σ H Q I q
/-- a test that doesn't look at 'whole' -/
theorem wpw_bool {X : Cx} {op : BoolOp} {es : List Expr} {p : Pos} {σ : L2.St} {H : Hp} {Q : Bool → Hp → Prop} (h : wptt X (.BoolOp op es p) σ H Q) : wpw X (.BoolOp op es p) σ H Q := fun whole pins s I => h pins s I
theorem bop_bT {b : CE} (hb : ST Γ k N b) {sc st : Scope} {kd : Bool} {y : Expr} {r : List Expr} {p : Pos} (h : (r = [] ∧ chkE N sc b y = true) ∨ (r ≠ [] ∧ chkE N sc b (.BoolOp (if kd then .And else .Or) (y :: r) p) = true))
    {X : Cx} (S : StX Γ k N sc st X) {B : Addr} {R0 H0 R H : Hp} {σ : L2.St} {ρ : List Sl} {W : D → Prop} {Q : Bool → Hp → Prop} (o : Ok X.K B R0 H0 R H σ ρ) (w : wE Γ b ρ W) (t : ∀ d R' H', Nx B R H R' H' → W d → truD d fun b => Q b H') : wpw X (.BoolOp (if kd then .And else .Or) (y :: r) p) σ H Q := by
  rcases h with ⟨rfl, h⟩ | ⟨_, h⟩
  · have q := hb sc st y h X S B R0 H0 R H σ ρ W Q o w t
    cases kd with
    | true => exact of_pw (pw_and1 (pt_wpt y)) q
    | false => exact of_pw (pw_or1 (pt_wpt y)) q
  · exact wpw_bool (hb sc st _ h X S B R0 H0 R H σ ρ W Q o w t)
theorem st_bop {kd : Bool} {a b : CE} (ha : ST Γ k N a) (hb : ST Γ k N b) : ST Γ k N (.bop kd a b) := by
  intro sc st e hc X S B R0 H0 R H σ ρ W Q o w t
  obtain ⟨op, x, y, r, p, rfl, rfl, h1, h2⟩ := bop_2 hc
  have key : wptt X x σ H fun c H1 => if c = kd then wpw X (.BoolOp (if kd then .And else .Or) (y :: r) p) σ H1 Q else Q c H1 := by
    refine ha sc st x h1 X S B R0 H0 R H σ ρ _ _ o w fun d R1 H1 n1 w1 => ?_
    by_cases hd : W d
    · refine truD_imp (truD_and w1 (t d R1 H1 n1 hd)) fun c hw => ?_
      by_cases e : c = kd
      · rw [if_pos e]
        exact bop_bT hb h2 S (o.nx n1) (iteP_t hw.1 (by simpa using e)) fun d R' H' n hw => t _ _ _ (n1.trans n) hw
      · rw [if_neg e]; exact hw.2
    · refine truD_imp w1 fun c hw => ?_
      by_cases e : c = kd
      · rw [if_pos e]
        exact bop_bT hb h2 S (o.nx n1) (iteP_t hw (by simpa using e)) fun d R' H' n hw => t _ _ _ (n1.trans n) hw
      · exact absurd (iteP_f hw (by simpa using e)) hd
  cases kd with
  | true =>
    refine of_pt (pw_and (pt_wpt x) (pw_wpt _)).pt ?_
    intro pins s I
    refine thn (key pins s I) fun c s1 ⟨H1, I1, q⟩ => ⟨H1, I1, ?_⟩
    cases c with
    | false => exact iteF q
    | true => exact iteT q
  | false =>
    refine of_pt (pw_or (pt_wpt x) (pw_wpt _)).pt ?_
    intro pins s I
    refine thn (key pins s I) fun c s1 ⟨H1, I1, q⟩ => ⟨H1, I1, ?_⟩
    cases c with
    | false => exact iteF q
    | true => exact iteT q
theorem se_ife {c a b : CE} (hcc : ST Γ k N c) (ha : SE Γ k N a) (hb : SE Γ k N b) : SE Γ k N (.ife c a b) := by
  intro sc st e hc X S B R0 H0 R H σ ρ W Q o w t
  cases e <;> first | exact absurd hc Bool.false_ne_true | skip
  rename_i u x y pos
  simp only [chkE, Bool.and_eq_true] at hc
  refine of_pe (pe_ifExp (pt_wpt u) (pe_wpt x) (pe_wpt y)) ?_
  refine hcc sc st u hc.1.1 X S B R0 H0 R H σ ρ _ _ o w fun d R1 H1 n1 w1 => truD_imp w1 fun c hw => ?_
  cases c with
  | true => exact iteT (ha sc st x hc.1.2 X S B R0 H0 R1 H1 σ ρ W Q (o.nx n1) hw fun v d R' H' n r' hw => t _ _ _ _ (n1.trans n) r' hw)
  | false => exact iteF (hb sc st y hc.2 X S B R0 H0 R1 H1 σ ρ W Q (o.nx n1) hw fun v d R' H' n r' hw => t _ _ _ _ (n1.trans n) r' hw)
theorem st_ife {c a b : CE} (hcc : ST Γ k N c) (ha : ST Γ k N a) (hb : ST Γ k N b) : ST Γ k N (.ife c a b) := by
  intro sc st e hc X S B R0 H0 R H σ ρ W Q o w t
  cases e <;> first | exact absurd hc Bool.false_ne_true | skip
  rename_i u x y pos
  simp only [chkE, Bool.and_eq_true] at hc
  intro pins s I
  show wpAny _ _ (do if ← isTrue u X.env (eval u X.env) then isTrue x X.env (eval x X.env) else isTrue y X.env (eval y X.env)) _ _ s
  refine wpAny_bind (thn ((hcc sc st u hc.1.1 X S B R0 H0 R H σ ρ _ (fun c H1 => ∃ R1, Nx B R H R1 H1 ∧ iteP c (wE Γ a ρ W) (wE Γ b ρ W)) o w fun d R1 H1 n1 w1 => truD_imp w1 fun c hw => ⟨R1, n1, hw⟩) pins s I) fun c s1 ⟨H1, I1, R1, n1, hw⟩ => ?_)
  cases c with
  | true => exact iteT' ((ha sc st x hc.1.2 X S B R0 H0 R1 H1 σ ρ W Q (o.nx n1) hw fun d R' H' n hw => t _ _ _ (n1.trans n) hw) pins s1 I1)
  | false => exact iteF' ((hb sc st y hc.2 X S B R0 H0 R1 H1 σ ρ W Q (o.nx n1) hw fun d R' H' n hw => t _ _ _ (n1.trans n) hw) pins s1 I1)
where
  iteT' {M : Model} {A : Around} {a b : Sem Bool} {Q : Bool → Shared → Prop} {E : Value → Shared → Prop} {s : Shared} (h : wpAny M A a Q E s) : wpAny M A (if true = true then a else b) Q E s := h
  iteF' {M : Model} {A : Around} {a b : Sem Bool} {Q : Bool → Shared → Prop} {E : Value → Shared → Prop} {s : Shared} (h : wpAny M A b Q E s) : wpAny M A (if false = true then a else b) Q E s := by
    rw [if_neg Bool.false_ne_true]; exact h
end
end DL
set_option maxHeartbeats 4000000
namespace DL
open PySem PySem.Spec PyProof.Rows L2
section
variable {Γ : Sg} {k : Nat} {N : List Str}
/-! ### argument lists -/
theorem ses_nil : SEs Γ k N .nil := by
  intro sc st es hc X S B R0 H0 R H σ ρ W Q o w t
  cases es with
  | cons _ _ => exact absurd hc Bool.false_ne_true
  | nil => exact of_pa pa_nil (t [] [] R H (Nx.refl o.sub o.bag) .nil rfl w)
theorem ses_cons {a : CE} {as : CEs} (ha : SE Γ k N a) (hs : SEs Γ k N as) : SEs Γ k N (.cons a as) := by
  intro sc st es hc X S B R0 H0 R H σ ρ W Q o w t
  cases es with
  | nil => exact absurd hc Bool.false_ne_true
  | cons e es =>
    simp only [chkEs, Bool.and_eq_true, Bool.not_eq_true'] at hc
    refine of_pa (pa_cons (pe_wpt e) (pa_wpt es) (star_cons hc.1.1 es X.env)) ?_
    refine ha sc st e hc.1.2 X S B R0 H0 R H σ ρ _ _ o w fun v d R1 H1 n1 r1 w1 => ?_
    refine hs sc st es hc.2 X S B R0 H0 R1 H1 σ ρ _ _ (o.nx n1) w1 fun vs ds R2 H2 n2 r2 l2 w2 => ?_
    exact t _ _ _ _ (n1.trans n2) (.cons (r1.mono n2.r) r2) (by simp [CEs.len, l2]) w2
theorem sks_nil : SKs Γ k N .nil := by
  intro sc st ks es hn hc X S B R0 H0 R H σ ρ W Q o w t
  cases es with
  | cons _ _ => exact absurd hc Bool.false_ne_true
  | nil => exact of_pk pk_nil (t [] [] R H (Nx.refl o.sub o.bag) .nil rfl w)
theorem sks_cons {a : CE} {as : CEs} (ha : SE Γ k N a) (hs : SKs Γ k N as) : SKs Γ k N (.cons a as) := by
  intro sc st ks es hn hc X S B R0 H0 R H σ ρ W Q o w t
  cases es with
  | nil => exact absurd hc Bool.false_ne_true
  | cons e es =>
    obtain ⟨nm, v, pos⟩ := e
    cases ks with
    | nil => cases nm <;> exact absurd hn Bool.false_ne_true
    | cons kk ks =>
      cases nm with
      | none => exact absurd hn Bool.false_ne_true
      | some x =>
        simp only [kwNames, Bool.and_eq_true] at hn
        have hc' : (!isStar v && chkE N sc a v && chkEs N sc as (kwVals es)) = true := hc
        simp only [Bool.and_eq_true, Bool.not_eq_true'] at hc'
        refine of_pk (pk_cons (pe_wpt v) (pk_wpt es)) ?_
        refine ha sc st v hc'.1.2 X S B R0 H0 R H σ ρ _ _ o w fun v d R1 H1 n1 r1 w1 => ?_
        refine hs sc st ks es hn.2 hc'.2 X S B R0 H0 R1 H1 σ ρ _ _ (o.nx n1) w1 fun vs ds R2 H2 n2 r2 l2 w2 => ?_
        exact t _ _ _ _ (n1.trans n2) (.cons (r1.mono n2.r) r2) (by simp [CEs.len, l2]) w2
theorem len_line {as : CEs} {ds : List D} {vs : List V} {K : PySem.W.Frag} {B : Addr} {R : Hp} (r : RdAll K B R vs ds) (l : ds.length = as.len) (h : as.len ≤ 1000) : vs.length ≤ sizeLine := by
  rw [r.length, l, sizeLine_eq]; omega
theorem se_tup {as : CEs} (hs : SEs Γ k N as) : SE Γ k N (.tup as) := by
  intro sc st e hc X S B R0 H0 R H σ ρ W Q o w t
  cases e <;> first | exact absurd hc Bool.false_ne_true | skip
  rename_i es kk pos
  simp only [chkE, Bool.and_eq_true, decide_eq_true_eq] at hc
  obtain ⟨hl, hc⟩ := hc
  refine of_pe (pe_tup (pa_wpt es)) ?_
  refine hs sc st es hc X S B R0 H0 R H σ ρ _ _ o w fun vs ds R1 H1 n1 r1 l1 w1 => ?_
  exact ⟨len_line r1 l1 hl, To.tup (fun v d R' H' n r' hw => t _ _ _ _ (n1.trans n) r' hw) n1.s n1.b r1 w1⟩
theorem se_lst {as : CEs} (hs : SEs Γ k N as) : SE Γ k N (.lst as) := by
  intro sc st e hc X S B R0 H0 R H σ ρ W Q o w t
  cases e <;> first | exact absurd hc Bool.false_ne_true | skip
  rename_i es pos
  simp only [chkE, Bool.and_eq_true, decide_eq_true_eq] at hc
  obtain ⟨hl, hc⟩ := hc
  refine of_pe (pe_lst (pa_wpt es)) ?_
  refine hs sc st es hc X S B R0 H0 R H σ ρ _ _ o w fun vs ds R1 H1 n1 r1 l1 w1 => ?_
  exact ⟨len_line r1 l1 hl, To.lst (fun v d R' H' n r' hw => t _ _ _ _ (n1.trans n) r' hw) n1.s n1.b r1 w1⟩
theorem Nx.extra {B : Addr} {R H : Hp} (s : Same R H) (b : BagOk B R H) {p : Addr} (hp : H p = none) (o : HO) : Nx B R H R (upd H p o) := by
  have hB : B ≠ p := fun e => bag_some b (by rw [e]; exact hp)
  exact (Nx.refl s b).own_write hp (fr_none s hp) hB
theorem se_dct1 {a b : CE} (ha : SE Γ k N a) (hb : SE Γ k N b) : SE Γ k N (.dct1 a b) := by
  intro sc st e hc X S B R0 H0 R H σ ρ W Q o w t
  cases e <;> first | exact absurd hc Bool.false_ne_true | skip
  rename_i ks vs pos
  rcases ks with _ | ⟨_ | x, _ | ⟨_, _⟩⟩ <;> first | exact absurd hc Bool.false_ne_true | skip
  rcases vs with _ | ⟨y, _ | ⟨_, _⟩⟩ <;> first | exact absurd hc Bool.false_ne_true | skip
  simp only [chkE, Bool.and_eq_true] at hc
  refine of_pe (pe_disp (pps_cons (pe_wpt x) (pe_wpt y) pps_nil) rfl rfl (by simp) (by show 1 ≤ 15; decide)) ?_
  intro p hp
  have hB : B ≠ p := fun e => bag_some o.bag (by rw [e]; exact hp)
  have n0 := Nx.extra o.sub o.bag hp (.dK [])
  refine ha sc st x hc.1 X S B R0 H0 R _ σ ρ _ _ (o.nx n0) w fun v d R1 H1 n1 r1 w1 => ?_
  refine hb sc st y hc.2 X S B R0 H0 R1 H1 σ ρ _ _ ((o.nx n0).nx n1) w1 fun u e R2 H2 n2 r2 w2 => ?_
  have n3 := n1.trans n2
  have hp2 : H2 p = some (.dK []) := n3.h p _ upd_same (Ne.symm hB)
  have rp2 : R2 p = none := by rw [n3.n p (by rw [upd_same]; exact fun z => nomatch z)]; exact fr_none o.sub hp
  have fin : ∀ kk : Key, v = kV kk → W (.dct [(kk, e)]) → H2 p = some (.dK []) ∧ ∃ kvs : List (Key × V), [(v, u)] = kvs.map (fun kv => (kV kv.1, kv.2)) ∧ kvs.length ≤ 15 ∧ Q (.ref p) (upd H2 p (.dK (mergeK [] kvs))) := fun kk ek hw => by
    refine ⟨hp2, [(kk, u)], by rw [ek]; rfl, by show 1 ≤ 15; decide, ?_⟩
    have n4 : Nx B R H R2 H2 := n0.trans n3
    have n5 := (n4.own_write (o := .dK [(kk, u)]) hp rp2 hB).freeze hp rp2 hB upd_same
    exact t _ _ _ _ n5 (.dct upd_same (.cons (r2.mono fun b o' h => by rw [upd_ne (ne_of_none h rp2)]; exact h) .nil)) hw
  cases r1 <;> first | exact w2.elim | skip
  · exact fin (.inl _) rfl w2
  · exact fin (.inr _) rfl w2

/-! ### calls of defs -/
theorem kw_names {env : Env} {pos : Pos} : ∀ {ks : List Str} {kws : List Keyword}, kwNames ks kws = true → (backToKw pos (keywordEach kws env)).all (·.1.isSome) = true ∧ (backToKw pos (keywordEach kws env)).filterMap (·.1) = ks ∧ (backToKw pos (keywordEach kws env)).any (·.1.isNone) = false
  | [], [], _ => ⟨rfl, rfl, rfl⟩
  | [], ⟨nm, _, _⟩ :: _, h => by cases nm <;> exact absurd h Bool.false_ne_true
  | _ :: _, [], h => absurd h Bool.false_ne_true
  | kk :: ks, ⟨none, _, _⟩ :: _, h => absurd h Bool.false_ne_true
  | kk :: ks, ⟨some x, v, p⟩ :: r, h => by
    simp only [kwNames, Bool.and_eq_true, decide_eq_true_eq] at h
    obtain ⟨rfl, h2⟩ := h
    obtain ⟨a, b, c⟩ := kw_names (pos := pos) (env := env) h2
    refine ⟨?_, ?_, ?_⟩
    · show (true && (backToKw pos (keywordEach r env)).all (·.1.isSome)) = true
      rw [a]; rfl
    · show kk :: (backToKw pos (keywordEach r env)).filterMap (·.1) = _
      rw [b]
    · show (false || (backToKw pos (keywordEach r env)).any (·.1.isNone)) = false
      rw [c]; rfl
theorem se_call {f : Str} {as : CEs} (hs : SEs Γ k N as) : SE Γ k N (.call f as) := by
  intro sc st e hc X S B R0 H0 R H σ ρ W Q o w t
  cases e <;> first | exact absurd hc Bool.false_ne_true | skip
  rename_i fe es kws pos
  cases fe <;> first | exact absurd hc Bool.false_ne_true | skip
  rename_i x p
  cases kws with
  | cons _ _ => exact absurd hc Bool.false_ne_true
  | nil =>
  simp only [chkE, Bool.and_eq_true, decide_eq_true_eq] at hc
  obtain ⟨⟨rfl, hg⟩, hc⟩ := hc
  obtain ⟨g1, g2⟩ := S.glob hg
  simp only [wE] at w
  split at w
  · rename_i r hr
    obtain ⟨fa, fd, hm, hk, hb, F, _⟩ := S.sg.fn _ _ hr
    have q : wpa X es σ H fun vs H1 => spD X.K r.sp (vs ++ []) H1 Q E0 := by
      refine hs sc st es hc X S B R0 H0 R H σ ρ _ _ o w fun vs ds R1 H1 n1 r1 l1 w1 => ?_
      rw [List.append_nil]
      exact ⟨B, R1, ds, W, n1.s, n1.b, r1, w1, fun v d R' H' n r' hw => t _ _ _ _ (n1.trans n) r' hw⟩
    cases es with
    | nil => exact of_pe (pe_call0 F S.room g1 hm hk hb .nil pass0 g2) (by
        have q' : wpa X [] σ H fun vs H1 => spD X.K r.sp (vs ++ []) H1 Q E0 := q
        cases as with
        | cons _ _ => exact absurd hc Bool.false_ne_true
        | nil => exact ⟨B, R, [], W, o.sub, o.bag, .nil, w, t⟩)
    | cons e es =>
      have hns := noStar_cons (chk_star hc).1
      exact of_pe (pe_call F S.room g1 hm hk hb .nil pass0 (pa_wpt (e :: es)) g2 (star_cons hns.1 es X.env) (back_star hns.2)) q
  · exact w.elim
theorem se_callK {f : Str} {as : CEs} {ks : List Str} {kes : CEs} {j : Nat} (hs : SEs Γ k N as) (hks : SKs Γ k N kes) : SE Γ k N (.callK f as ks kes j) := by
  intro sc st e hc X S B R0 H0 R H σ ρ W Q o w t
  cases e <;> first | exact absurd hc Bool.false_ne_true | skip
  rename_i fe es kws pos
  cases fe <;> first | exact absurd hc Bool.false_ne_true | skip
  rename_i x p
  have hc : (decide (f = x) && globB sc x && chkEs N sc as es && kwNames ks kws && chkEs N sc kes (kwVals kws)) = true := by
    cases kws <;> exact hc
  simp only [Bool.and_eq_true, decide_eq_true_eq] at hc
  obtain ⟨⟨⟨⟨rfl, hg⟩, hc1⟩, hkn⟩, hc2⟩ := hc
  obtain ⟨g1, g2⟩ := S.glob hg
  simp only [wE] at w
  split at w
  · rename_i r hr
    split at w
    · rename_i q hq
      obtain ⟨⟨e1, e2, e3⟩, w⟩ := w
      obtain ⟨fa, fd, hm, hk, hb, F, hkb⟩ := S.sg.fn _ _ hr
      obtain ⟨g, gV, kbn, rel⟩ := (hkb j q hq).ex
      rw [e1, e2] at kbn rel
      obtain ⟨hall, hfm, hno⟩ := kw_names (pos := pos) (env := X.env) hkn
      have q : wpa X es σ H fun vs H1 => wpk X kws σ H1 fun zs H2 => vs.length = as.len ∧ zs.length = ks.length ∧ spD X.K r.sp (gV vs zs) H2 Q E0 := by
        refine hs sc st es hc1 X S B R0 H0 R H σ ρ _ _ o w fun vs ds R1 H1 n1 r1 l1 w1 => ?_
        refine hks sc st ks kws hkn hc2 X S B R0 H0 R1 H1 σ ρ _ _ (o.nx n1) w1 fun zs es' R2 H2 n2 r2 l2 w2 => ?_
        refine ⟨by rw [r1.length, l1], by rw [r2.length, l2, e3], B, R2, _, W, n2.s, n2.b, rel B R2 vs zs ds es' (r1.mono n2.r) r2 l1 (by rw [l2, e3]), w2, fun v d R' H' n r' hw => t _ _ _ _ (n1.trans (n2.trans n)) r' hw⟩
      intro pins s I
      have ns := chk_star hc1
      refine wpAny_Call_Name_kw (ld_glob I g1 hm ?_ g2)
      cases es with
      | nil =>
        refine PySem.W.callWith_KW0 (h₀ := X.base) I.ok.mod.kin hk hall ?_ (Bool.or_eq_false_iff.mpr ⟨rfl, hno⟩)
        have q1 : wpk X kws σ H fun zs H2 => ([] : List V).length = as.len ∧ zs.length = ks.length ∧ spD X.K r.sp (gV [] zs) H2 Q E0 := by
          cases as with
          | cons _ _ => exact absurd hc1 Bool.false_ne_true
          | nil =>
            refine hks sc st ks kws hkn hc2 X S B R0 H0 R H σ ρ _ _ o w fun zs es' R2 H2 n2 r2 l2 w2 => ?_
            exact ⟨rfl, by rw [r2.length, l2, e3], B, R2, _, W, n2.s, n2.b, rel B R2 [] zs [] es' .nil r2 rfl (by rw [l2, e3]), w2, fun v d R' H' n r' hw => t _ _ _ _ (n2.trans n) r' hw⟩
        refine thn (q1 pos pins s I) fun ws s2 ⟨zs, H2, I2, rz, l1, l2, q2⟩ => ⟨I2.kIn, ?_⟩
        rw [hfm]
        exact run_fnN F S.room kbn pass0 I2 .nil rz l1 l2 q2
      | cons e es =>
        have hns := noStar_cons ns.1
        refine PySem.W.callWith_KW (h₀ := X.base) I.ok.mod.kin hk hall (thn (q pos pins s I) fun us s1 ⟨vs, H1, I1, r1, q1⟩ => ?_) (Bool.or_eq_false_iff.mpr ⟨back_star ns.1, hno⟩) (star_cons hns.1 es X.env)
        refine thn (q1 pos pins s1 I1) fun ws s2 ⟨zs, H2, I2, rz, l1, l2, q2⟩ => ⟨I2.kIn, ?_⟩
        rw [hfm]
        exact run_fnN F S.room kbn pass0 I2 r1 rz l1 l2 q2
    · exact w.elim
  · exact w.elim

/-! ### calls of built-ins -/
theorem bf_in (b : Bf) : b.name ∈ blN := by
  cases b <;> simp [Bf.name, blN]
theorem bf_boot (b : Bf) : bootBuiltins b.name = some b.v := by
  cases b <;> (simp only [Bf.name, Bf.v]; decide +kernel)
theorem bf_name (b : Bf) : b.name ≠ "__name__" := by
  cases b <;> (simp only [Bf.name]; decide)
theorem bf_shape (b : Bf) : (∃ y, b.v = .builtin y) ∨ (∃ y, b.v = .type y) := by
  cases b <;> first | exact .inl ⟨_, rfl⟩ | exact .inr ⟨_, rfl⟩
theorem b_nil (b : Bf) {W : D → Prop} (h : bD b [] W) : False := by
  cases b <;> exact h
theorem se_bcall {b : Bf} {as : CEs} (hs : SEs Γ k N as) : SE Γ k N (.bcall b as) := by
  intro sc st e hc X S B R0 H0 R H σ ρ W Q o w t
  cases e <;> first | exact absurd hc Bool.false_ne_true | skip
  rename_i fe es kws pos
  cases fe <;> first | exact absurd hc Bool.false_ne_true | skip
  rename_i x p
  cases kws with
  | cons _ _ => exact absurd hc Bool.false_ne_true
  | nil =>
  simp only [chkE, Bool.and_eq_true, decide_eq_true_eq] at hc
  obtain ⟨⟨rfl, hg⟩, hc⟩ := hc
  obtain ⟨g1, g2⟩ := S.glob hg
  have hm := S.sg.bl _ (bf_in b)
  have q : wpa X es σ H fun vs H1 => wpc X b.v vs H1 Q := by
    refine hs sc st es hc X S B R0 H0 R H σ ρ _ _ o w fun vs ds R1 H1 n1 r1 l1 w1 => ?_
    exact b_ok b S.calm n1.s n1.b r1 w1 fun v d R' H' n r' hw => t _ _ _ _ (n1.trans n) r' hw
  cases es with
  | nil =>
    cases as with
    | cons _ _ => exact absurd hc Bool.false_ne_true
    | nil => exact (b_nil b w).elim
  | cons e es =>
    have hns := noStar_cons (chk_star hc).1
    have bb := bf_boot b
    intro pins s I
    refine wpAny_Call_Name_kw (ld_blt I g1 hm bb ?_ (bf_name b) g2)
    have q' := thn (q pos pins s I) fun us s1 ⟨vs, H1, I1, r1, q1⟩ => q1 pins s1 σ us I1 r1
    have bs := bf_shape b
    generalize b.v = v at q' bs
    rcases bs with ⟨y, rfl⟩ | ⟨y, rfl⟩
    · exact PyProof.Rows.callWith_builtin1 q' (star_cons hns.1 es X.env) (back_star hns.2)
    · exact PyProof.Rows.callWith_type1 q' (star_cons hns.1 es X.env) (back_star hns.2)

/-! ### isinstance -/
theorem ty_in (t : Ty) : Str.ofString t.name ∈ blN := by
  cases t <;> (simp only [Ty.name, blN]; decide)
theorem ty_boot (t : Ty) : bootBuiltins (Str.ofString t.name) = some (.type t.name) := by
  cases t <;> (simp only [Ty.name]; decide +kernel)
theorem ty_pe {sc st : Scope} {X : Cx} (S : StX Γ k N sc st X) {t : Ty} {e : Expr} (h : tyName sc t e = true) : PE X e (tC (.ty t.name)) ∧ isStar e = false := by
  cases e <;> first | exact absurd h Bool.false_ne_true | skip
  rename_i x p
  simp only [tyName, Bool.and_eq_true, decide_eq_true_eq] at h
  obtain ⟨rfl, hg⟩ := h
  obtain ⟨g1, g2⟩ := S.glob hg
  exact ⟨pe_bltn g1 (S.sg.bl _ (ty_in t)) (ty_boot t) rfl (by cases t <;> (simp only [Ty.name]; decide)) g2, rfl⟩
theorem ty_pa {sc st : Scope} {X : Cx} (S : StX Γ k N sc st X) : ∀ {ts : List Ty} {es : List Expr}, tyNames sc ts es = true → PA X es (fun σ H Q => Q (ts.map fun t => V.ty t.name) H)
  | [], [], _ => pa_nil
  | [], _ :: _, h => absurd h Bool.false_ne_true
  | _ :: _, [], h => absurd h Bool.false_ne_true
  | t :: ts, e :: es, h => by
    simp only [tyNames, Bool.and_eq_true] at h
    obtain ⟨p1, p2⟩ := ty_pe S h.1
    exact pa_cons p1 (ty_pa S h.2) (star_cons p2 es X.env)
theorem dbag {K : PySem.W.Frag} {B : Addr} {R : Hp} {v : V} {d : D} : True := trivial
theorem isi_in : ("isinstance" : Str) ∈ blN := by simp [blN]
theorem se_isi {a : CE} {ty : Ty} (ha : SE Γ k N a) : SE Γ k N (.isi a ty) := by
  intro sc st e hc X S B R0 H0 R H σ ρ W Q o w t
  cases e <;> first | exact absurd hc Bool.false_ne_true | skip
  rename_i fe es kws pos
  cases fe <;> first | exact absurd hc Bool.false_ne_true | skip
  rename_i x p
  rcases es with _ | ⟨e, _ | ⟨f, _ | ⟨_, _⟩⟩⟩ <;> first | exact absurd hc Bool.false_ne_true | skip
  cases kws with
  | cons _ _ => exact absurd hc Bool.false_ne_true
  | nil =>
  simp only [chkE, Bool.and_eq_true, decide_eq_true_eq] at hc
  obtain ⟨⟨⟨⟨rfl, hg⟩, hst⟩, hc⟩, hty⟩ := hc
  obtain ⟨g1, g2⟩ := S.glob hg
  obtain ⟨p1, p2⟩ := ty_pe S hty
  have hns : isStar e = false := by simpa using hst
  refine of_pe (pe_callB call_isi g1 (S.sg.bl _ isi_in) PyProof.Rows.boot_isinstance (pa_cons (pe_wpt e) (pa_cons p1 pa_nil (star_cons p2 [] X.env)) (star_cons hns _ X.env)) (by decide) g2 (star_cons hns _ X.env) (back_star (by simp [noStar, p2]))) ?_
  refine ha sc st e hc X S B R0 H0 R H σ ρ _ _ o w fun v d R1 H1 n1 r1 w1 => ?_
  refine ⟨v, .ty ty.name, _, _, isiD d ty, rfl, .ty _, tyx_rd n1.s n1.b r1, ?_, t _ _ _ _ n1 (.bl _) w1.2⟩
  exact kit_ty (kit_d w1.1 ty)
theorem ty_paired (ts : List Ty) : Paired ClsV (ts.map fun t => V.ty t.name) (ts.map fun t => Value.type t.name) := by
  induction ts with
  | nil => exact .nil
  | cons t ts ih => exact .cons (.ty _) ih
theorem se_isis {a : CE} {ts : List Ty} (ha : SE Γ k N a) : SE Γ k N (.isis a ts) := by
  intro sc st e hc X S B R0 H0 R H σ ρ W Q o w t
  cases e <;> first | exact absurd hc Bool.false_ne_true | skip
  rename_i fe es kws pos
  cases fe <;> first | exact absurd hc Bool.false_ne_true | skip
  rename_i x p
  rcases es with _ | ⟨e, _ | ⟨f, tl⟩⟩ <;> first | exact absurd hc Bool.false_ne_true | skip
  cases f <;> first | exact absurd hc Bool.false_ne_true | skip
  rename_i fs kk pt
  cases tl with
  | cons _ _ => exact absurd hc Bool.false_ne_true
  | nil =>
  cases kws with
  | cons _ _ => exact absurd hc Bool.false_ne_true
  | nil =>
  simp only [chkE, Bool.and_eq_true, decide_eq_true_eq] at hc
  obtain ⟨⟨⟨⟨⟨hl, rfl⟩, hg⟩, hst⟩, hc⟩, hty⟩ := hc
  obtain ⟨g1, g2⟩ := S.glob hg
  have hns : isStar e = false := by simpa using hst
  refine of_pe (pe_callB call_isiT g1 (S.sg.bl _ isi_in) PyProof.Rows.boot_isinstance (pa_cons (pe_wpt e) (pa_cons (pe_tup (ty_pa S hty)) pa_nil (star_cons rfl [] X.env)) (star_cons hns _ X.env)) (by decide) g2 (star_cons hns _ X.env) (back_star rfl)) ?_
  refine ha sc st e hc X S B R0 H0 R H σ ρ _ _ o w fun v d R1 H1 n1 r1 w1 => ?_
  refine ⟨by rw [List.length_map, sizeLine_eq]; omega, fun q hq => ?_⟩
  have n2 := Nx.new n1.s n1.b hq (.tup (ts.map fun t => V.ty t.name))
  refine ⟨v, q, _, _, _, _, rfl, upd_same, ty_paired ts, tyx_rd n2.s n2.b (r1.mono n2.r), kits_d w1.1 ts, ?_⟩
  exact t _ _ _ _ (n1.trans n2) (.bl _) w1.2

/-! ### subscripts, slices -/
theorem se_sub {a b : CE} (ha : SE Γ k N a) (hb : SE Γ k N b) : SE Γ k N (.sub a b) := by
  intro sc st e hc X S B R0 H0 R H σ ρ W Q o w t
  cases e <;> first | exact absurd hc Bool.false_ne_true | skip
  rename_i l r pos
  simp only [chkE, Bool.and_eq_true, Bool.not_eq_true'] at hc
  have pl : PlainIx r := by
    intro oo ii
    have h := hc.1.1
    cases r <;> first | rfl | (simp [isSlice] at h)
  refine of_pe (pe_ix ix_seq (pe_wpt l) (pe_wpt r) pl) ?_
  refine ha sc st l hc.1.2 X S B R0 H0 R H σ ρ _ _ o w fun x d R1 H1 n1 rx w1 => ?_
  refine hb sc st r hc.2 X S B R0 H0 R1 H1 σ ρ _ _ (o.nx n1) w1 fun y e R2 H2 n2 ry w2 => ?_
  exact sub_r n2.s n2.b (rx.mono n2.r) ry w2 fun v d R' H' n r' hw => t _ _ _ _ (n1.trans (n2.trans n)) r' hw
abbrev wpo (X : Cx) (e : Option Expr) : TO := fun σ H Q => ∀ pins s, Inv X pins σ H s → wpAny (model X.prog X.w) X.A (evalPart e X.env) (fun u s' => ∃ o H', Inv X pins σ H' s' ∧ IsPart u o ∧ Q o H') X.xe s
theorem po_wpt {X : Cx} (e : Option Expr) : PO X e (wpo X e) := ⟨fun pins s σ H Q I h => h pins s I⟩
theorem of_po {X : Cx} {e : Option Expr} {t : TO} (h : PO X e t) {σ : L2.St} {H : Hp} {Q : Option Int → Hp → Prop} (q : t σ H Q) : wpo X e σ H Q := fun pins s I => h.run pins s σ H Q I q
abbrev SO' (Γ : Sg) (k : Nat) (N : List Str) (co : CO) : Prop := ∀ (sc st : Scope) (e : Option Expr), chkO N sc co e = true → ∀ (X : Cx), StX Γ k N sc st X → ∀ (B : Addr) (R0 H0 R H : Hp) (σ : L2.St) (ρ : List Sl) (W : Option Int → Prop) (Q : Option Int → Hp → Prop),
  Ok X.K B R0 H0 R H σ ρ → wO Γ co ρ W → (∀ o R' H', Nx B R H R' H' → W o → Q o H') → wpo X e σ H Q
theorem so_none : SO' Γ k N .none := by
  intro sc st e hc X S B R0 H0 R H σ ρ W Q o w t
  cases e with
  | some _ => exact absurd hc Bool.false_ne_true
  | none => exact of_po po_none (t _ _ _ (Nx.refl o.sub o.bag) w)
theorem so_some {a : CE} (ha : SE Γ k N a) : SO' Γ k N (.some a) := by
  intro sc st e hc X S B R0 H0 R H σ ρ W Q o w t
  cases e with
  | none => exact absurd hc Bool.false_ne_true
  | some e =>
    refine of_po (po_some (pe_wpt e)) ?_
    refine ha sc st e hc X S B R0 H0 R H σ ρ _ _ o w fun v d R1 H1 n1 r1 w1 => ?_
    cases r1 <;> first | exact w1.elim | skip
    exact ⟨_, rfl, t _ _ _ n1 w1⟩
theorem se_slice {a : CE} {lo hi : CO} (ha : SE Γ k N a) (hl : SO' Γ k N lo) (hh : SO' Γ k N hi) : SE Γ k N (.slice a lo hi) := by
  intro sc st e hc X S B R0 H0 R H σ ρ W Q o w t
  cases e <;> first | exact absurd hc Bool.false_ne_true | skip
  rename_i l r pos
  cases r <;> first | exact absurd hc Bool.false_ne_true | skip
  rename_i x y z p2
  cases z with
  | some _ => exact absurd hc Bool.false_ne_true
  | none =>
  simp only [chkE, Bool.and_eq_true] at hc
  refine of_pe (pe_slice sl_any (pe_wpt l) (po_wpt x) (po_wpt y)) ?_
  refine ha sc st l hc.1.1 X S B R0 H0 R H σ ρ _ _ o w fun v d R1 H1 n1 rx w1 => ?_
  refine hl sc st x hc.1.2 X S B R0 H0 R1 H1 σ ρ _ _ (o.nx n1) w1 fun lo' R2 H2 n2 w2 => ?_
  refine hh sc st y hc.2 X S B R0 H0 R2 H2 σ ρ _ _ ((o.nx n1).nx n2) w2 fun hi' R3 H3 n3 w3 => ?_
  exact sl_r n3.s n3.b (rx.mono (n2.trans n3).r) w3 fun v d R' H' n r' hw => t _ _ _ _ (n1.trans (n2.trans (n3.trans n))) r' hw
end
end DL
set_option maxHeartbeats 4000000
namespace DL
open PySem PySem.Spec PyProof.Rows L2
section
variable {Γ : Sg} {k : Nat} {N : List Str}
/-! ### what is walked -/
theorem si_seq {a : CE} (ha : SE Γ k N a) : SI Γ k N (.seq a) := by
  intro sc st e tg hc X S B R0 H0 R H σ ρ W Q o w t
  simp only [chkI, Bool.and_eq_true] at hc
  have key : wpt X e σ H fun x H1 => (∃ a, x = .ref a ∧ (∃ xs, SqL X.K H1 a xs) ∧ Q (Itl X.K a) H1) ∨ (∃ a, x = .ref a ∧ (∃ xs, SqT X.K H1 a xs) ∧ Q (Itt X.K a) H1) := by
    refine wpt_inv (ha sc st e hc.1 X S B R0 H0 R H σ ρ _ _ o w fun x d R1 H1 n1 rx w1 ⟨_, _, I1⟩ => ?_)
    cases rx <;> first | exact w1.elim | skip
    · rename_i q r
      obtain ⟨_, _, _, hz⟩ := I1.tuple (sqT_mono n1.s q)
      exact .inr ⟨_, rfl, ⟨_, sqT_mono n1.s q⟩, t _ _ _ _ n1 (it_tup q r) (fun _ => by rw [← r.length]; exact hz) w1⟩
    · rename_i q r
      obtain ⟨_, _, _, hz⟩ := I1.list (SqL.of (n1.s _ _ q))
      exact .inl ⟨_, rfl, ⟨_, SqL.of (n1.s _ _ q)⟩, t _ _ _ _ n1 (it_list q r) (fun _ => by rw [← r.length]; exact hz) w1⟩
  intro pins s I
  have h1 := key pins s I
  refine thn h1 fun v s1 ⟨x, H1, I1, r1, q1⟩ => ?_
  -- from here as pi_list, pi_tup
  rcases q1 with ⟨a, rfl, ⟨xs, hq⟩, q⟩ | ⟨a, rfl, ⟨xs, hq⟩, q⟩
  · cases r1
    obtain ⟨its, rv, p, hz⟩ := I1.list hq
    refine wpAny_pyIter_list p.isList ?_
    refine ⟨s1.heap.objs.size, [s1.heap.objs.size], _, _, H1, rfl, I1.kept (t' := s1.toks) fun b o e => Heap.get?_push_of_some _ e, turn_list a _, ⟨_, Heap.get?_push_size _ rfl, rfl, rfl⟩, fun b hb => ?_, q⟩
    have e : b = s1.heap.objs.size := by simpa using hb
    subst e
    exact I1.fpOk (Nat.le_refl _) (I1.hok.fresh (Nat.le_refl _))
  · cases r1
    obtain ⟨its, rv, p, hz⟩ := I1.tuple hq
    refine wpAny_pyIter_tuple (show s1.heap.IsTuple a its.toArray from p) ?_
    refine ⟨s1.heap.objs.size, [s1.heap.objs.size], _, _, H1, rfl, I1.kept (t' := s1.toks) fun b o e => Heap.get?_push_of_some _ e, turn_tuple a _, ⟨_, Heap.get?_push_size _ rfl, rfl, rfl⟩, fun b hb => ?_, q⟩
    have e : b = s1.heap.objs.size := by simpa using hb
    subst e
    exact I1.fpOk (Nat.le_refl _) (I1.hok.fresh (Nat.le_refl _))
theorem bl_rng : ("range" : Str) ∈ blN := by simp [blN]
theorem bl_zip : ("zip" : Str) ∈ blN := by simp [blN]
theorem bl_enum : ("enumerate" : Str) ∈ blN := by simp [blN]
theorem star1 {e : Expr} (h : isStar e = false) (env : Env) : starEach [e] env = [(false, eval e env)] := star_cons h [] env
theorem si_rng1 {a : CE} (ha : SE Γ k N a) : SI Γ k N (.rng1 a) := by
  intro sc st e tg hc X S B R0 H0 R H σ ρ W Q o w t
  cases e <;> first | exact absurd hc Bool.false_ne_true | skip
  rename_i fe es kws pos
  cases fe <;> first | exact absurd hc Bool.false_ne_true | skip
  rename_i x p
  rcases es with _ | ⟨e, _ | ⟨_, _⟩⟩ <;> first | exact absurd hc Bool.false_ne_true | skip
  cases kws with
  | cons _ _ => exact absurd hc Bool.false_ne_true
  | nil =>
  simp only [chkI, Bool.and_eq_true, decide_eq_true_eq, Bool.not_eq_true'] at hc
  obtain ⟨⟨⟨rfl, hg⟩, hst⟩, hc⟩ := hc
  obtain ⟨g1, g2⟩ := S.glob hg
  refine of_pi (pi_range1 g1 (S.sg.bl _ bl_rng) (pa_cons (pe_wpt e) pa_nil (star_cons hst [] X.env)) (star1 hst X.env)) ?_
  refine ha sc st e hc X S B R0 H0 R H σ ρ _ _ o w fun x d R1 H1 n1 rx w1 => ?_
  cases rx <;> first | exact w1.elim | skip
  exact ⟨_, rfl, w1.1.1, w1.1.2, t _ _ _ _ n1 it_rng id w1.2⟩
theorem si_rng2 {a b : CE} (ha : SE Γ k N a) (hb : SE Γ k N b) : SI Γ k N (.rng2 a b) := by
  intro sc st e tg hc X S B R0 H0 R H σ ρ W Q o w t
  cases e <;> first | exact absurd hc Bool.false_ne_true | skip
  rename_i fe es kws pos
  cases fe <;> first | exact absurd hc Bool.false_ne_true | skip
  rename_i x p
  rcases es with _ | ⟨e, _ | ⟨f, _ | ⟨_, _⟩⟩⟩ <;> first | exact absurd hc Bool.false_ne_true | skip
  cases kws with
  | cons _ _ => exact absurd hc Bool.false_ne_true
  | nil =>
  simp only [chkI, Bool.and_eq_true, decide_eq_true_eq, Bool.not_eq_true'] at hc
  obtain ⟨⟨⟨⟨⟨rfl, hg⟩, hst⟩, hst2⟩, hc1⟩, hc2⟩ := hc
  obtain ⟨g1, g2⟩ := S.glob hg
  refine of_pi (pi_range2 g1 (S.sg.bl _ bl_rng) (pa_cons (pe_wpt e) (pa_cons (pe_wpt f) pa_nil (star_cons hst2 [] X.env)) (star_cons hst _ X.env)) ((star_cons hst _ X.env).trans (by rw [star1 hst2 X.env])) (star1 hst2 X.env)) ?_
  refine ha sc st e hc1 X S B R0 H0 R H σ ρ _ _ o w fun x d R1 H1 n1 rx w1 => ?_
  refine hb sc st f hc2 X S B R0 H0 R1 H1 σ ρ _ _ (o.nx n1) w1 fun y d' R2 H2 n2 ry w2 => ?_
  cases rx <;> first | exact w2.elim | skip
  cases ry <;> first | exact w2.elim | skip
  exact ⟨_, _, rfl, w2.1, t _ _ _ _ (n1.trans n2) it_rng id w2.2⟩
theorem zip_le {K : PySem.W.Frag} {B : Addr} {R : Hp} {ys : List V} {es : List D} (h : ys.length ≤ sizeLine) (r : RdAll K B R ys es) (ds : List D) : (zipD ds es).length ≤ sizeLine := by
  rw [zip_len, ← r.length]; omega
theorem si_zip {a b : CE} (ha : SE Γ k N a) (hb : SE Γ k N b) : SI Γ k N (.zip a b) := by
  intro sc st e tg hc X S B R0 H0 R H σ ρ W Q o w t
  cases e <;> first | exact absurd hc Bool.false_ne_true | skip
  rename_i fe es kws pos
  cases fe <;> first | exact absurd hc Bool.false_ne_true | skip
  rename_i x p
  rcases es with _ | ⟨e, _ | ⟨f, _ | ⟨_, _⟩⟩⟩ <;> first | exact absurd hc Bool.false_ne_true | skip
  cases kws with
  | cons _ _ => exact absurd hc Bool.false_ne_true
  | nil =>
  simp only [chkI, Bool.and_eq_true, decide_eq_true_eq, Bool.not_eq_true'] at hc
  obtain ⟨⟨⟨⟨⟨⟨htg, rfl⟩, hg⟩, hst⟩, hst2⟩, hc1⟩, hc2⟩ := hc
  obtain ⟨g1, g2⟩ := S.glob hg
  cases tg <;> first | exact absurd htg Bool.false_ne_true | skip
  rename_i elts kk tpos
  refine of_pi (RZ.pi_zipA g1 (S.sg.bl _ bl_zip) (pa_cons (pe_wpt e) (pa_cons (pe_wpt f) pa_nil (star_cons hst2 [] X.env)) (star_cons hst _ X.env)) (star_cons hst _ X.env) (back_star (by simp [noStar, hst2]))) ?_
  refine ha sc st e hc1 X S B R0 H0 R H σ ρ _ _ o w fun x d R1 H1 n1 rx w1 => ?_
  refine wpt_inv (hb sc st f hc2 X S B R0 H0 R1 H1 σ ρ _ _ (o.nx n1) w1 fun y d' R2 H2 n2 ry w2 ⟨_, _, I2⟩ => ?_)
  cases rx <;> first | exact w2.elim | skip
  · rename_i q r
    cases ry <;> first | exact w2.elim | skip
    rename_i q' r'
    obtain ⟨_, _, _, hz⟩ := I2.tuple (sqT_mono n2.s q')
    have hz' := zip_le (ys := _) hz r'
    exact ⟨_, _, _, _, rfl, .inr ⟨sqT_mono n2.s (sqT_mono n2.r q), sqT_mono n2.s q', t _ _ _ _ (n1.trans n2) (it_zipT (sqT_mono n2.r q) (r.mono n2.r) q' r') (fun _ => hz' _) w2⟩⟩
  · rename_i q r
    cases ry <;> first | exact w2.elim | skip
    rename_i q' r'
    obtain ⟨_, _, _, hz⟩ := I2.list (SqL.of (n2.s _ _ q'))
    have hz' := zip_le (ys := _) hz r'
    exact ⟨_, _, _, _, rfl, .inl ⟨SqL.of (n2.s _ _ (n2.r _ _ q)), SqL.of (n2.s _ _ q'), t _ _ _ _ (n1.trans n2) (it_zip (n2.r _ _ q) (r.mono n2.r) q' r') (fun _ => hz' _) w2⟩⟩
theorem si_enum {a : CE} (ha : SE Γ k N a) : SI Γ k N (.enum a) := by
  intro sc st e tg hc X S B R0 H0 R H σ ρ W Q o w t
  cases e <;> first | exact absurd hc Bool.false_ne_true | skip
  rename_i fe es kws pos
  cases fe <;> first | exact absurd hc Bool.false_ne_true | skip
  rename_i x p
  rcases es with _ | ⟨e, _ | ⟨_, _⟩⟩ <;> first | exact absurd hc Bool.false_ne_true | skip
  cases kws with
  | cons _ _ => exact absurd hc Bool.false_ne_true
  | nil =>
  simp only [chkI, Bool.and_eq_true, decide_eq_true_eq, Bool.not_eq_true'] at hc
  obtain ⟨⟨⟨⟨htg, rfl⟩, hg⟩, hst⟩, hc⟩ := hc
  obtain ⟨g1, g2⟩ := S.glob hg
  cases tg <;> first | exact absurd htg Bool.false_ne_true | skip
  rename_i elts kk tpos
  refine of_pi (pi_enum g1 (S.sg.bl _ bl_enum) (pa_cons (pe_wpt e) pa_nil (star_cons hst [] X.env)) (star1 hst X.env)) ?_
  refine wpt_inv (ha sc st e hc X S B R0 H0 R H σ ρ _ _ o w fun x d R1 H1 n1 rx w1 ⟨_, _, I1⟩ => ?_)
  cases rx <;> first | exact w1.elim | skip
  rename_i q r
  obtain ⟨_, _, _, hz⟩ := I1.list (SqL.of (n1.s _ _ q))
  exact ⟨_, _, rfl, SqL.of (n1.s _ _ q), t _ _ _ _ n1 (it_enum q r) (fun _ => by simp only [enumD, List.length_zipWith, List.length_range, ← r.length]; omega) w1⟩

/-! ### comprehensions -/
theorem lc_ok {K : PySem.W.Frag} {B : Addr} {R1 H1 : Hp} {J : It} {xs : List D} (it : ItOk K B R1 J xs) (s1 : Same R1 H1) (b1 : BagOk B R1 H1) {g : TG} {tt : TT} {te : TE} {vs : List Nat} {σ : L2.St} {A : Addr} {Q : VK}
    {bind : D → (List Sl → Prop) → Prop} {cond : List Sl → (Bool → Prop) → Prop} {elt : List Sl → (D → Prop) → Prop} {W : List D → Prop} (hA : H1 A = none)
    (turn : ∀ (v : V) (d : D) (R H : Hp) (P : List Sl → Prop) (Qg : L2.St → Hp → Prop), Nx B R1 H1 R H → Rd K B R v d → bind d P →
      (∀ σ2 ρ2 R2 H2, Nx B R H R2 H2 → P ρ2 → wipe σ2 vs = wipe σ vs →
        (∀ (Pc : Bool → Prop) (Qc : Bool → Hp → Prop), cond ρ2 Pc → (∀ c R3 H3, Nx B R2 H2 R3 H3 → Pc c → Qc c H3) → tt σ2 H2 Qc) →
        (∀ R3 H3, Nx B R2 H2 R3 H3 → ∀ (Pe : D → Prop) (Qe : VK), elt ρ2 Pe → To K B R3 H3 Pe Qe → te σ2 H3 Qe) → Qg σ2 H2) → g v (wipe σ vs) H Qg)
    (hlen : xs.length ≤ sizeLine) (w : lcD bind cond elt xs [] W) (t : To K B R1 H1 (fun d => ∃ ys, d = .lst ys ∧ W ys) Q) :
    ∃ W : Nat → Nat → Hp → Prop, (∃ m, W 0 m (upd H1 A (.lst []))) ∧ ∀ i m H, W i m H →
      (J.stop i H ∧ Q (.ref A) H) ∨ (J.go i H ∧ ∃ Nx : Hp → Prop, (∀ H', Nx H' → ∃ m', m' < m ∧ W (i + 1) m' H') ∧ ∀ x H', J.yld i H x H' → g x (wipe σ vs) H' fun σ2 H2 => wipe σ2 vs = wipe σ vs ∧ tt σ2 H2 fun b H3 =>
        if b = true then te σ2 H3 fun y H4 => ∃ acc, H4 A = some (.lst acc) ∧ acc.length < sizeLine ∧ Nx (upd H4 A (.lst (acc ++ [y]))) else Nx H3) := by
  obtain ⟨G, Y, wk, hG, hY⟩ := it.ex
  have hAB : B ≠ A := fun e => bag_some b1 (by rw [e]; exact hA)
  have rA : R1 A = none := fr_none s1 hA
  refine lc_it wk (fun i H => ∃ R acc vacc, Nx B R1 H1 R H ∧ R A = none ∧ H A = some (.lst vacc) ∧ RdAll K B R vacc acc ∧ acc.length ≤ i ∧ lcD bind cond elt (xs.drop i) acc W)
    ⟨R1, [], [], Nx.extra s1 b1 hA _, rA, upd_same, .nil, Nat.le_refl _, w⟩ (fun i H _ ⟨R, acc, vacc, n, _⟩ => hG R H n.r n.s) ?_ ?_
  · rintro i x H H' hi ⟨R, acc, vacc, n, hRA, hHA, ra, hal, w⟩ y
    obtain ⟨d, R', hd, n', rd⟩ := hY i R H x H' n.r n.s n.b y
    have e : xs.drop i = d :: xs.drop (i + 1) := by
      have hlt := (List.getElem?_eq_some_iff.mp hd).1
      rw [List.drop_eq_getElem_cons hlt]
      congr 1
      exact (List.getElem?_eq_some_iff.mp hd).2
    rw [e] at w
    refine turn x d R' H' _ _ (n.trans n') rd w fun σ2 ρ2 R2 H2 n2 hP hw hc he => ⟨hw, ?_⟩
    refine hc _ _ hP fun c R3 H3 n3 hcc => ?_
    have keep : ∀ R4 H4, Nx B R H R4 H4 → R4 A = none ∧ H4 A = some (.lst vacc) ∧ RdAll K B R4 vacc acc := fun R4 H4 n4 =>
      ⟨by rw [n4.n A (by rw [hHA]; exact fun z => nomatch z)]; exact hRA, n4.h A _ hHA (Ne.symm hAB), ra.mono n4.r⟩
    cases c with
    | false =>
      refine iteF ?_
      have n4 := n'.trans (n2.trans n3)
      obtain ⟨k1, k2, k3⟩ := keep R3 H3 n4
      exact ⟨R3, acc, vacc, n.trans n4, k1, k2, k3, by omega, hcc⟩
    | true =>
      refine iteT ?_
      refine he R3 H3 n3 _ _ hcc fun v y R4 H4 n4 ry hw4 => ?_
      have n5 := n'.trans (n2.trans (n3.trans n4))
      obtain ⟨k1, k2, k3⟩ := keep R4 H4 n5
      refine ⟨vacc, k2, by rw [k3.length]; omega, R4, acc ++ [y], vacc ++ [v], (n.trans n5).own_write hA k1 hAB, k1, upd_same, k3.append (.cons ry .nil), by simp; omega, hw4⟩
  · rintro H ⟨R, acc, vacc, n, hRA, hHA, ra, _, w⟩
    rw [List.drop_length] at w
    have n2 := n.freeze hA hRA hAB hHA
    exact t _ _ _ _ n2 (.lst upd_same (ra.mono fun b o h => by rw [upd_ne (ne_of_none h hRA)]; exact h)) ⟨acc, rfl, w⟩
theorem wC_none {ρ : List Sl} {P : Bool → Prop} (h : wC Γ .none ρ P) : P true := h
theorem tg_wipe {tg : Tg} {vs : List Nat} (h : tgIn tg vs = true) {σ : L2.St} {v : V} {σ' : L2.St} (e : tgEff tg (wipe σ vs) v σ') : wipe σ' vs = wipe σ vs := by
  cases tg with
  | one i =>
    have hi : i ∈ vs := by simpa [tgIn] using h
    have e' : σ' = (wipe σ vs).set i (some v) := e
    rw [e', wipe_set hi, wipe_idem fun i h => h]
  | tup is =>
    obtain ⟨xs, e'⟩ := e
    have hi : ∀ i, i ∈ is → i ∈ vs := by simpa [tgIn] using h
    rw [e', wipe_setAll hi, wipe_idem fun i h => h]
theorem fold_ok {e : Expr} (h : ∀ ci sc tup, chkI N sc ci e tup = true → True) : True := trivial
theorem chkI_fold {sc : Scope} {ci : CI} {e : Expr} {tup : Bool} (h : chkI N sc ci e tup = true) (env : Env) (x : Value) : foldedSetIterable e env x = pure x := by
  cases ci with
  | seq a =>
    simp only [chkI, Bool.and_eq_true, Bool.not_eq_true'] at h
    have h2 := h.2
    cases e <;> first | rfl | (simp [isSet] at h2)
  | rng1 a => cases e <;> first | rfl | exact absurd h Bool.false_ne_true
  | rng2 a b => cases e <;> first | rfl | exact absurd h Bool.false_ne_true
  | zip a b => cases e <;> first | rfl | exact absurd h Bool.false_ne_true
  | enum a => cases e <;> first | rfl | exact absurd h Bool.false_ne_true
/-- the parts of a comprehension that the text holds -/
theorem lc_parts {tg : Tg} {it : CI} {cond : CO} {elt : CE} {own : List (Str × Nat)} {sc : Scope} {e : Expr} (hc : chkE N sc (.lc tg it cond elt own) e = true) :
    ∃ (f t i : Expr) (ifs : List Expr) (scope : Scope) (pos : Pos), e = .ListComp f [⟨t, i, ifs, 0⟩] scope pos ∧ chkTg N scope tg t = true ∧ chkI N sc it i (isTup t) = true ∧ ((cond = .none ∧ ifs = []) ∨ ∃ c x, cond = .some c ∧ ifs = [x] ∧ chkE N (relS scope sc) c x = true) ∧
      chkE N (relS scope sc) elt f = true ∧ blkC N sc scope own = true ∧ tgIn tg (own.map (·.2)) = true := by
  cases e <;> first | exact absurd hc Bool.false_ne_true | skip
  rename_i f gens scope pos
  rcases gens with _ | ⟨⟨t, i, ifs, n⟩, _ | ⟨_, _⟩⟩ <;> first | exact absurd hc Bool.false_ne_true | skip
  simp only [chkE, Bool.and_eq_true, decide_eq_true_eq] at hc
  obtain ⟨⟨⟨⟨⟨⟨rfl, h1⟩, h2⟩, h3⟩, h4⟩, h5⟩, h6⟩ := hc
  refine ⟨f, t, i, ifs, scope, pos, rfl, h1, h2, ?_, h4, h5, h6⟩
  cases cond with
  | none =>
    cases ifs with
    | nil => exact .inl ⟨rfl, rfl⟩
    | cons _ _ => exact absurd h3 Bool.false_ne_true
  | some c =>
    rcases ifs with _ | ⟨x, _ | ⟨_, _⟩⟩ <;> first | exact absurd h3 Bool.false_ne_true | skip
    exact .inr ⟨c, x, rfl, rfl, h3⟩
abbrev bg (X : Cx) (scope : Scope) (t : Expr) : TG := fun v σ H Q => ∀ s H' C cl fp, wpg (X.blk s H' scope (compEnvC scope cl C X.env) fp) t v σ H Q
abbrev be (X : Cx) (scope : Scope) (e : Expr) : TE := fun σ H Q => ∀ s H' C cl fp, wpt (X.blk s H' scope (compEnvC scope cl C X.env) fp) e σ H Q
abbrev wpts (X : Cx) (ifs : List Expr) : TT := fun σ H Q => ∀ pins s, Inv X pins σ H s → wpAny (model X.prog X.w) X.A (forIn ifs true fun c r => if r = true then do let ok ← isTrue c X.env (eval c X.env); pure (ForInStep.yield ok) else pure (ForInStep.yield r)) (TP X pins σ Q) X.xe s
abbrev bt (X : Cx) (scope : Scope) (ifs : List Expr) : TT := fun σ H Q => ∀ s H' C cl fp, wpts (X.blk s H' scope (compEnvC scope cl C X.env) fp) ifs σ H Q
theorem of_pts {X : Cx} {ifs : List Expr} {t : TT} (h : PTs X ifs t) {σ : L2.St} {H : Hp} {Q : Bool → Hp → Prop} (q : t σ H Q) : wpts X ifs σ H Q := fun pins s I => h.run pins s σ H Q I q
/-- what a comprehension asks, shown -/
theorem lc_read {tg : Tg} {it : CI} {cond : CO} {elt : CE} {own : List (Str × Nat)} (hi : SI Γ k N it) (hcd : ∀ c, cond = .some c → ST Γ k N c) (he : SE Γ k N elt)
    {sc st : Scope} {f t i : Expr} {ifs : List Expr} {scope : Scope} (h1 : chkTg N scope tg t = true) (h2 : chkI N sc it i (isTup t) = true)
    (h3 : (cond = .none ∧ ifs = []) ∨ ∃ c x, cond = .some c ∧ ifs = [x] ∧ chkE N (relS scope sc) c x = true) (h4 : chkE N (relS scope sc) elt f = true) (h5 : blkC N sc scope own = true) (h6 : tgIn tg (own.map (·.2)) = true)
    {X : Cx} (S : StX Γ k N sc st X) {B : Addr} {R0 H0 R H : Hp} {σ : L2.St} {ρ : List Sl} {W : D → Prop} {Q : VK} (o : Ok X.K B R0 H0 R H σ ρ) (w : wE Γ (.lc tg it cond elt own) ρ W) (tq : To X.K B R H W Q) :
    tLc (wpi X t i) (bg X scope t) (bt X scope ifs) (be X scope f) (own.map (·.2)) σ H Q := by
  have hk : scope.kind = .function := (blkOk_by h5).kind
  refine hi sc st i t h2 X S B R0 H0 R H σ ρ _ _ o w fun J xs R1 H1 n1 it1 len1 w1 => ?_
  intro A hA
  have o1 := o.nx n1
  refine lc_ok it1 n1.s n1.b hA ?_ (len1 w1.1) w1.2 ?_
  · intro v d R2 H2 P Qg n2 rd hb hq s H' C cl fp
    have SB := S.blk hk s H' C cl fp
    have o2 := ((o1.nx n2).wipe (own.map (·.2)))
    refine tg_ok SB h1 (o2 : Ok (X.blk s H' scope (compEnvC scope cl C X.env) fp).K _ _ _ _ _ _ _) rd hb fun σ2 ρ2 o3 e3 hP => ?_
    refine hq σ2 ρ2 R2 H2 (Nx.refl n2.s n2.b) hP (tg_wipe h6 e3) ?_ ?_
    · intro Pc Qc hc hcq s' H'' C' cl' fp'
      have SB' := S.blk hk s' H'' C' cl' fp'
      rcases h3 with ⟨rfl, rfl⟩ | ⟨c, x, rfl, rfl, hx⟩
      · exact of_pts pts_nil (hcq _ _ _ (Nx.refl n2.s n2.b) hc)
      · refine of_pts (pts_one (pt_wpt x)) ?_
        exact hcd c rfl _ _ x hx _ SB' B R0 H0 R2 H2 σ2 ρ2 (fun d => truD d Pc) Qc o3 hc fun d R' H' n hd => truD_imp hd fun c hc => hcq c R' H' n hc
    · intro R3 H3 n3 Pe Qe hpe te s' H'' C' cl' fp'
      have SB' := S.blk hk s' H'' C' cl' fp'
      exact he _ _ f h4 _ SB' B R0 H0 R3 H3 σ2 ρ2 Pe Qe (o3.nx n3) hpe te
  · intro v d R' H' n r hw
    obtain ⟨ys, rfl, hw⟩ := hw
    exact tq _ _ _ _ (n1.trans n) r hw
theorem se_lc {tg : Tg} {it : CI} {cond : CO} {elt : CE} {own : List (Str × Nat)} (hi : SI Γ k N it) (hcd : ∀ c, cond = .some c → ST Γ k N c) (he : SE Γ k N elt) : SE Γ k N (.lc tg it cond elt own) := by
  intro sc st e hc X S B R0 H0 R H σ ρ W Q o w t
  obtain ⟨f, tx, i, ifs, scope, pos, rfl, h1, h2, h3, h4, h5, h6⟩ := lc_parts hc
  have ok : BlkOk X.N X.env.scope scope own := by rw [S.hN, S.hs]; exact blkOk_by h5
  refine of_pe (pe_lc S.calm (by rw [S.hN]; exact S.nd) (pi_wpt tx i) ok (fun s H C cl fp => ⟨fun pins s' σ H v u Q I r h => h s _ C cl fp pins s' u I r⟩) (fun s H C cl fp => ⟨fun pins s' σ H Q I h => h s _ C cl fp pins s' I⟩) (fun s H C cl fp => ⟨fun pins s' σ H Q I h => h s _ C cl fp pins s' I⟩) (chkI_fold h2 X.env)) (lc_read hi hcd he h1 h2 h3 h4 h5 h6 S o w t)
end
end DL
set_option maxHeartbeats 4000000
namespace DL
open PySem PySem.Spec PyProof.Rows L2
section
variable {Γ : Sg} {k : Nat} {N : List Str}
/-! ### every term -/
mutual
theorem sE : ∀ ce : CE, SE Γ k N ce ∧ ST Γ k N ce
  | .var i => ⟨se_var i, st_gen (se_var i) fun sc e h env whole => by cases e <;> first | rfl | exact absurd h Bool.false_ne_true⟩
  | .int n => ⟨se_int n, st_gen (se_int n) fun sc e h env whole => by cases e <;> first | rfl | exact absurd h Bool.false_ne_true⟩
  | .str x => ⟨se_str x, st_gen (se_str x) fun sc e h env whole => by cases e <;> first | rfl | exact absurd h Bool.false_ne_true⟩
  | .bl x => ⟨se_bl x, st_gen (se_bl x) fun sc e h env whole => by cases e <;> first | rfl | exact absurd h Bool.false_ne_true⟩
  | .non => ⟨se_non, st_gen se_non fun sc e h env whole => by cases e <;> first | rfl | exact absurd h Bool.false_ne_true⟩
  | .gl x => ⟨se_gl x, st_gen (se_gl x) fun sc e h env whole => by cases e <;> first | rfl | exact absurd h Bool.false_ne_true⟩
  | .bin op a b =>
    have h := se_bin (op := op) (sE a).1 (sE b).1
    ⟨h, st_gen h fun sc e h env whole => by cases e <;> first | rfl | exact absurd h Bool.false_ne_true⟩
  | .neg a =>
    have h := se_neg (sE a).1
    ⟨h, st_gen h fun sc e h env whole => by
      cases e <;> first | rfl | exact absurd h Bool.false_ne_true | skip
      rename_i op _ _
      cases op <;> first | rfl | exact absurd h Bool.false_ne_true⟩
  | .cmp op a b => ⟨se_cmp (sE a).1 (sE b).1, st_cmp (sE a).1 (sE b).1⟩
  | .chain p q a b c => ⟨se_chain (sE a).1 (sE b).1 (sE c).1, st_chain (sE a).1 (sE b).1 (sE c).1⟩
  | .not a => ⟨se_not (sE a).1, st_not (sE a).2⟩
  | .bop kd a b => ⟨se_bop (sE a).1 (sE b).1, st_bop (sE a).2 (sE b).2⟩
  | .ife c a b => ⟨se_ife (sE c).2 (sE a).1 (sE b).1, st_ife (sE c).2 (sE a).2 (sE b).2⟩
  | .tup es =>
    have h := se_tup (sEs es)
    ⟨h, st_gen h fun sc e h env whole => by cases e <;> first | rfl | exact absurd h Bool.false_ne_true⟩
  | .lst es =>
    have h := se_lst (sEs es)
    ⟨h, st_gen h fun sc e h env whole => by cases e <;> first | rfl | exact absurd h Bool.false_ne_true⟩
  | .dct1 a b =>
    have h := se_dct1 (sE a).1 (sE b).1
    ⟨h, st_gen h fun sc e h env whole => by cases e <;> first | rfl | exact absurd h Bool.false_ne_true⟩
  | .call f es =>
    have h := se_call (f := f) (sEs es)
    ⟨h, st_gen h fun sc e h env whole => by cases e <;> first | rfl | exact absurd h Bool.false_ne_true⟩
  | .callK f es ks kes j =>
    have h := se_callK (f := f) (ks := ks) (j := j) (sEs es) (sKs kes)
    ⟨h, st_gen h fun sc e h env whole => by cases e <;> first | rfl | exact absurd h Bool.false_ne_true⟩
  | .bcall b es =>
    have h := se_bcall (b := b) (sEs es)
    ⟨h, st_gen h fun sc e h env whole => by cases e <;> first | rfl | exact absurd h Bool.false_ne_true⟩
  | .isi a t =>
    have h := se_isi (ty := t) (sE a).1
    ⟨h, st_gen h fun sc e h env whole => by cases e <;> first | rfl | exact absurd h Bool.false_ne_true⟩
  | .isis a ts =>
    have h := se_isis (ts := ts) (sE a).1
    ⟨h, st_gen h fun sc e h env whole => by cases e <;> first | rfl | exact absurd h Bool.false_ne_true⟩
  | .sub a i =>
    have h := se_sub (sE a).1 (sE i).1
    ⟨h, st_gen h fun sc e h env whole => by cases e <;> first | rfl | exact absurd h Bool.false_ne_true⟩
  | .slice a lo hi =>
    have h := se_slice (sE a).1 (sO lo) (sO hi)
    ⟨h, st_gen h fun sc e h env whole => by cases e <;> first | rfl | exact absurd h Bool.false_ne_true⟩
  | .lc tg it cond elt own =>
    have h := se_lc (tg := tg) (own := own) (sI it) (sC cond) (sE elt).1
    ⟨h, st_gen h fun sc e h env whole => by cases e <;> first | rfl | exact absurd h Bool.false_ne_true⟩
theorem sEs : ∀ es : CEs, SEs Γ k N es
  | .nil => ses_nil
  | .cons e es => ses_cons (sE e).1 (sEs es)
theorem sKs : ∀ es : CEs, SKs Γ k N es
  | .nil => sks_nil
  | .cons e es => sks_cons (sE e).1 (sKs es)
theorem sO : ∀ co : CO, SO' Γ k N co
  | .none => so_none
  | .some e => so_some (sE e).1
theorem sC : ∀ (co : CO) (c : CE), co = .some c → ST Γ k N c
  | .none, _, h => by cases h
  | .some e, c, h => by cases h; exact (sE e).2
theorem sI : ∀ ci : CI, SI Γ k N ci
  | .seq a => si_seq (sE a).1
  | .rng1 a => si_rng1 (sE a).1
  | .rng2 a b => si_rng2 (sE a).1 (sE b).1
  | .zip a b => si_zip (sE a).1 (sE b).1
  | .enum a => si_enum (sE a).1
end

/-! ### statements -/
structure EndsOk (K : PySem.W.Frag) (B : Addr) (R0 H0 Rb : Hp) (kt : Kt) (E : Ends) : Prop where
  nx : ∀ σ ρ R H, Same Rb R → Ok K B R0 H0 R H σ ρ → kt.nx ρ → E.nx σ H
  bk : ∀ σ ρ R H, Same Rb R → Ok K B R0 H0 R H σ ρ → kt.bk ρ → E.bk σ H
  ct : ∀ σ ρ R H, Same Rb R → Ok K B R0 H0 R H σ ρ → kt.ct ρ → E.ct σ H
  rt : ∀ v d R H, Nx B R0 H0 R H → Rd K B R v d → kt.rt d → E.rt v H
theorem EndsOk.up {K : PySem.W.Frag} {B : Addr} {R0 H0 Rb Rb' : Hp} {kt : Kt} {E : Ends} (e : EndsOk K B R0 H0 Rb kt E) (s : Same Rb Rb') : EndsOk K B R0 H0 Rb' kt E :=
  ⟨fun σ ρ R H q => e.nx σ ρ R H (s.trans q), fun σ ρ R H q => e.bk σ ρ R H (s.trans q), fun σ ρ R H q => e.ct σ ρ R H (s.trans q), e.rt⟩
variable (Γ k N)
abbrev SS (s : CS) : Prop := ∀ (sc : Scope) (st : Stmt), chkS N sc s st = true → ∀ (X : Cx), StX Γ k N sc sc X → PassesOwn (model X.prog X.w) X.A X.env X.xe → ∀ (B : Addr) (R0 H0 R H : Hp) (σ : L2.St) (ρ : List Sl) (kt : Kt) (E : Ends),
  Ok X.K B R0 H0 R H σ ρ → wS Γ s kt ρ → EndsOk X.K B R0 H0 R kt E → wps X st E σ H
abbrev SSs (s : CSs) : Prop := ∀ (sc : Scope) (st : List Stmt), chkSs N sc s st = true → ∀ (X : Cx), StX Γ k N sc sc X → PassesOwn (model X.prog X.w) X.A X.env X.xe → ∀ (B : Addr) (R0 H0 R H : Hp) (σ : L2.St) (ρ : List Sl) (kt : Kt) (E : Ends),
  Ok X.K B R0 H0 R H σ ρ → wSs Γ s kt ρ → EndsOk X.K B R0 H0 R kt E → wpss X st E σ H
variable {Γ k N}
theorem swaps_no {e : Expr} (h : isComp e = false) (t : Option Expr) (l : Nat) (env : Env) : swapsWith e t l env = pure false := by
  cases e <;> first | rfl | (simp [isComp] at h)
theorem block_fn {env : Env} (hk : env.scope.kind = .function) : env.blockKind = .function := by
  unfold Env.blockKind; rw [hk]; rfl
theorem sw_eq {elt : Expr} {gs : List Comprehension} {scope : Scope} {pos py : Pos} {y : Str} {l : Nat} {env : Env} (hk : env.scope.kind = .function) :
    swapsWith (.ListComp elt gs scope pos) (some (.Name y py)) l env = pure (swB env.scope y py (.ListComp elt gs scope pos)) := by
  have hb := block_fn hk
  unfold swapsWith
  simp only [hb, Expr.pos, swB]
  show pure ((ScopeKind.function == ScopeKind.function) && (env.scope.names.lookup y == some .local) && _ && _) = _
  have e : (env.scope.names.lookup y == some NameKind.local) = (match env.scope.names.lookup y with | some .local => true | _ => false) := by
    cases env.scope.names.lookup y with
    | none => rfl
    | some kd => cases kd <;> rfl
  rw [e]
  rfl
theorem set_end {X : Cx} {B : Addr} {R0 H0 R H : Hp} {σ : L2.St} {ρ : List Sl} {kt : Kt} {E : Ends} (o : Ok X.K B R0 H0 R H σ ρ) (en : EndsOk X.K B R0 H0 R kt E) (i : Nat) : To X.K B R H (fun d => kt.nx (ρ.set i (.dat d))) (fun x H1 => gName i x σ H1 E.nx) :=
  fun v d R' H' n r hw => en.nx _ _ _ _ n.r ((o.nx n).set i r) hw
theorem ss_set (i : Nat) (e : CE) : SS Γ k N (.set i e) := by
  intro sc s hc X S hp B R0 H0 R H σ ρ kt E o w en
  cases s <;> first | exact absurd hc Bool.false_ne_true | skip
  rename_i ts v pos
  rcases ts with _ | ⟨t, _ | ⟨_, _⟩⟩ <;> first | exact absurd hc Bool.false_ne_true | skip
  simp only [chkS, Bool.and_eq_true] at hc
  obtain ⟨h1, h2⟩ := hc
  cases t <;> first | exact absurd h1 Bool.false_ne_true | skip
  rename_i x px
  simp only [chkName, Bool.and_eq_true, decide_eq_true_eq] at h1
  obtain ⟨l1, l2⟩ := S.loc h1.2
  have nd : X.N.Nodup := by rw [S.hN]; exact S.nd
  have ix : X.N[i]? = some x := by rw [S.hN]; exact h1.1
  have key := (sE e).1 sc sc v h2 X S B R0 H0 R H σ ρ _ _ o w (set_end o en i)
  cases hcmp : isComp v with
  | false => exact of_ps (ps_set nd ix l1 (pe_wpt v) (swaps_no hcmp _ _ _) l2) key
  | true =>
    cases e <;> cases v <;> first | exact absurd h2 Bool.false_ne_true | (simp [isComp] at hcmp; done) | skip
    rename_i tg it cond elt own f gens scope spos
    cases hsw : swB sc x px (.ListComp f gens scope spos) with
    | false => exact of_ps (ps_set nd ix l1 (pe_wpt _) (by rw [sw_eq (by rw [S.hs]; exact S.kd), S.hs, hsw]) l2) key
    | true =>
      obtain ⟨f', tx, it', ifs, scope', pos', e', q1, q2, q3, q4, q5, q6⟩ := lc_parts h2
      cases e'
      have ok : BlkOk X.N X.env.scope scope own := by rw [S.hN, S.hs]; exact blkOk_by q5
      have hyl : X.env.scope.names.lookup x = some .local := by
        rw [S.hs]
        simp only [swB, Bool.and_eq_true] at hsw
        have hq := hsw.1.1
        split at hq
        · assumption
        · cases hq
      refine of_ps (ps_setLc (g := bg X scope tx) (tt := bt X scope ifs) (te := be X scope f) S.calm nd ix hyl (by rw [sw_eq (by rw [S.hs]; exact S.kd), S.hs, hsw]) (pi_wpt tx it') ok (fun s H C cl fp => ⟨fun pins s' σ H v u Q I r h => h s _ C cl fp pins s' u I r⟩) (fun s H C cl fp => ⟨fun pins s' σ H Q I h => h s _ C cl fp pins s' I⟩) (fun s H C cl fp => ⟨fun pins s' σ H Q I h => h s _ C cl fp pins s' I⟩) (chkI_fold q2 X.env)) ?_
      exact lc_read (Γ := Γ) (k := k) (sI it) (sC cond) (sE elt).1 q1 q2 q3 q4 q5 q6 S o (show wE Γ (.lc tg it cond elt own) ρ (fun d => kt.nx (ρ.set i (.dat d))) from w) (set_end o en i)
theorem ss_expr (e : CE) : SS Γ k N (.expr e) := by
  intro sc s hc X S hp B R0 H0 R H σ ρ kt E o w en
  cases s <;> first | exact absurd hc Bool.false_ne_true | skip
  rename_i v pos
  simp only [chkS, Bool.and_eq_true, Bool.not_eq_true'] at hc
  refine of_ps (ps_expr (pe_wpt v) (swaps_no hc.2 _ _ _)) ?_
  exact (sE e).1 sc sc v hc.1 X S B R0 H0 R H σ ρ _ _ o w fun v d R' H' n r hw => en.nx _ _ _ _ n.r (o.nx n) hw
theorem ss_ret (e : CE) : SS Γ k N (.ret e) := by
  intro sc s hc X S hp B R0 H0 R H σ ρ kt E o w en
  cases s <;> first | exact absurd hc Bool.false_ne_true | skip
  rename_i v pos
  cases v with
  | none => exact absurd hc Bool.false_ne_true
  | some v =>
  refine of_ps (ps_ret (pe_wpt v)) ?_
  exact (sE e).1 sc sc v hc X S B R0 H0 R H σ ρ _ _ o w fun v d R' H' n r hw => en.rt _ _ _ _ (o.ext.trans n) r hw
theorem ss_retN : SS Γ k N .retN := by
  intro sc s hc X S hp B R0 H0 R H σ ρ kt E o w en
  cases s <;> first | exact absurd hc Bool.false_ne_true | skip
  rename_i v pos
  cases v with
  | some v => exact absurd hc Bool.false_ne_true
  | none => exact of_ps ps_retN (en.rt _ _ _ _ o.ext .non w)
theorem ss_pass : SS Γ k N .pass := by
  intro sc s hc X S hp B R0 H0 R H σ ρ kt E o w en
  cases s <;> first | exact absurd hc Bool.false_ne_true | skip
  exact of_ps ps_pass (en.nx _ _ _ _ (Same.refl _) o w)
theorem ss_brk : SS Γ k N .brk := by
  intro sc s hc X S hp B R0 H0 R H σ ρ kt E o w en
  cases s <;> first | exact absurd hc Bool.false_ne_true | skip
  exact of_ps ps_break (en.bk _ _ _ _ (Same.refl _) o w)
theorem ss_cont : SS Γ k N .cont := by
  intro sc s hc X S hp B R0 H0 R H σ ρ kt E o w en
  cases s <;> first | exact absurd hc Bool.false_ne_true | skip
  exact of_ps ps_continue (en.ct _ _ _ _ (Same.refl _) o w)
theorem ss_ite {t : CE} {a b : CSs} (ha : SSs Γ k N a) (hb : SSs Γ k N b) : SS Γ k N (.ite t a b) := by
  intro sc s hc X S hp B R0 H0 R H σ ρ kt E o w en
  cases s <;> first | exact absurd hc Bool.false_ne_true | skip
  rename_i c x y pos
  simp only [chkS, Bool.and_eq_true] at hc
  refine of_ps (ps_if (pt_wpt c) (pss_wpt x) (pss_wpt y)) ?_
  refine (sE t).2 sc sc c hc.1.1 X S B R0 H0 R H σ ρ _ _ o w fun d R1 H1 n1 w1 => truD_imp w1 fun c hw => ?_
  cases c with
  | true => exact iteT (ha sc x hc.1.2 X S hp B R0 H0 R1 H1 σ ρ kt E (o.nx n1) hw (en.up n1.r))
  | false => exact iteF (hb sc y hc.2 X S hp B R0 H0 R1 H1 σ ρ kt E (o.nx n1) hw (en.up n1.r))
theorem ss_for {tg : Tg} {it : CI} {body : CSs} (hb : SSs Γ k N body) : SS Γ k N (.for_ tg it body) := by
  intro sc s hc X S hp B R0 H0 R H σ ρ kt E o w en
  cases s <;> first | exact absurd hc Bool.false_ne_true | skip
  rename_i t i x orelse pos
  cases orelse with
  | cons _ _ => exact absurd hc Bool.false_ne_true
  | nil =>
  simp only [chkS, Bool.and_eq_true] at hc
  obtain ⟨⟨h1, h2⟩, h3⟩ := hc
  refine of_ps (ps_for hp S.calm (pi_wpt t i) (pg_wpt t) (pss_wpt x) (chkI_fold h2 X.env)) ?_
  refine sI it sc sc i t h2 X S B R0 H0 R H σ ρ _ _ o w fun J xs R1 H1 n1 it1 _ w1 => ?_
  obtain ⟨G, Y, wk, hG, hY⟩ := it1.ex
  refine for_it wk (fun j σ H => ∃ R ρ, Ok X.K B R0 H0 R H σ ρ ∧ Same R1 R ∧ forD (bindT tg) (wSs Γ body) kt (xs.drop j) ρ) ⟨R1, ρ, o.nx n1, Same.refl _, w1⟩ (fun j σ H _ ⟨R, ρ, o, s, _⟩ => hG R H s o.sub) ?_ ?_
  · rintro j v σ H H' hj ⟨R, ρ, o, s, w⟩ y
    obtain ⟨d, R', hd, n', rd⟩ := hY j R H v H' s o.sub o.bag y
    have e : xs.drop j = d :: xs.drop (j + 1) := by
      have hlt := (List.getElem?_eq_some_iff.mp hd).1
      rw [List.drop_eq_getElem_cons hlt]
      congr 1
      exact (List.getElem?_eq_some_iff.mp hd).2
    rw [e] at w
    refine tg_ok S h1 (o.nx n') rd w fun σ2 ρ2 o2 _ hP => ?_
    refine hb sc x h3 X S hp B R0 H0 R' H' σ2 ρ2 _ _ o2 hP ⟨?_, ?_, ?_, ?_⟩
    · intro σ3 ρ3 R3 H3 s3 o3 w3
      exact ⟨R3, ρ3, o3, s.trans (n'.r.trans s3), w3⟩
    · exact fun σ3 ρ3 R3 H3 s3 o3 w3 => en.nx _ _ _ _ (n1.r.trans (s.trans (n'.r.trans s3))) o3 w3
    · intro σ3 ρ3 R3 H3 s3 o3 w3
      exact ⟨R3, ρ3, o3, s.trans (n'.r.trans s3), w3⟩
    · exact en.rt
  · rintro σ H ⟨R, ρ, o, s, w⟩
    rw [List.drop_length] at w
    exact en.nx _ _ _ _ (n1.r.trans s) o w
theorem swst_none {ts : List Expr} {kk : Nat} {p : Pos} {v : Expr} (h : isTup v = false) (env : Env) : swappedStores [.Tuple ts kk p] v env = pure none := by
  cases v <;> first | rfl | (simp [isTup] at h)
theorem fm_short {α β : Type} (f : α → Option β) : ∀ {l : List α}, (l.filterMap f).length = l.length → ∀ x ∈ l, (f x).isSome = true
  | [], _, _, h => by cases h
  | a :: l, h, x, hx => by
    cases e : f a with
    | none =>
      rw [List.filterMap_cons_none e] at h
      have := List.length_filterMap_le f l
      simp only [List.length_cons] at h
      omega
    | some b =>
      rw [List.filterMap_cons_some e] at h
      simp only [List.length_cons, Nat.add_right_cancel_iff] at h
      rcases List.mem_cons.mp hx with rfl | hx
      · rw [e]; rfl
      · exact fm_short f h x hx
theorem swst_tup {ts vs : List Expr} {kk k2 : Nat} {p p2 : Pos} {env : Env} (hk : env.scope.kind = .function) (hs : vs.any isStar = false) (h : (vs.length == ts.length) = false ∨ allLoc env.scope ts = false) :
    swappedStores [.Tuple ts kk p] (.Tuple vs k2 p2) env = pure none := by
  unfold swappedStores
  simp only [pure_bind, bind_pure_comp]
  split
  · rfl
  · rename_i hn
    split
    · rename_i hh
      exfalso
      have : vs.any isStar = true := by
        rw [← hh]; congr 1
      rw [this] at hs; cases hs
    · split
      · rfl
      · rename_i hne
        exfalso
        rcases h with h | h
        · apply hn
          have h' : (vs.length != ts.length) = true := by simp only [bne, h, Bool.not_false]
          rw [h']; simp
        · apply hne
          rw [Bool.or_eq_true]
          refine .inl ?_
          rw [bne_iff_ne]
          intro hl
          have all := fm_short _ hl
          have : allLoc env.scope ts = true := by
            unfold allLoc
            rw [List.all_eq_true]
            intro t ht
            have q := all t ht
            cases t <;> simp at q ⊢
            rename_i x pp
            have e : env.scope.names.lookup x = some .local := q.1
            rw [e]
          rw [this] at h; cases h
end
end DL
set_option maxHeartbeats 4000000
namespace DL
open PySem PySem.Spec PyProof.Rows L2
section
variable {Γ : Sg} {k : Nat} {N : List Str}
theorem tupR_ok {ts : List Expr} {kk : Nat} {p : Pos} {v : Expr} {env : Env} (hk : env.scope.kind = .function) (h : tupR env.scope ts v = true) : swappedStores [.Tuple ts kk p] v env = pure none := by
  cases ht : isTup v with
  | false => exact swst_none ht env
  | true =>
    cases v <;> first | exact absurd ht Bool.false_ne_true | skip
    simp only [tupR, Bool.and_eq_true, Bool.or_eq_true, Bool.not_eq_true'] at h
    exact swst_tup hk h.2 h.1
theorem ss_setT (is : List Nat) (e : CE) : SS Γ k N (.setT is e) := by
  intro sc s hc X S hp B R0 H0 R H σ ρ kt E o w en
  cases s <;> first | exact absurd hc Bool.false_ne_true | skip
  rename_i ts v pos
  rcases ts with _ | ⟨t, tl⟩ <;> first | exact absurd hc Bool.false_ne_true | skip
  cases t <;> first | exact absurd hc Bool.false_ne_true | skip
  rename_i es kk pt
  cases tl with
  | cons _ _ => exact absurd hc Bool.false_ne_true
  | nil =>
  simp only [chkS, Bool.and_eq_true, Bool.not_eq_true'] at hc
  obtain ⟨⟨⟨h1, h2⟩, h3⟩, h4⟩ := hc
  obtain ⟨q1, q2, q3⟩ := names_ok S h1
  refine of_ps (ps_asg (pe_wpt v) (pg_tup S.calm q1 q2 q3) (by unfold swapsWithSole; exact swaps_no h3 _ _ _) (tupR_ok (by rw [S.hs]; exact S.kd) (by rw [S.hs]; exact h4)) rfl) ?_
  refine (sE e).1 sc sc v h2 X S B R0 H0 R H σ ρ _ _ o w fun v d R' H' n r hw => ?_
  cases r <;> first | exact hw.elim | skip
  rename_i a xs ds q r
  exact ⟨a, xs, rfl, sqT_mono n.s q, by rw [r.length]; exact hw.1.symm, by rw [r.length]; exact hw.1.symm, en.nx _ _ _ _ n.r (setAll_ok (o.nx n) r) hw.2⟩
theorem ss_par (i j : Nat) (a b : CE) : SS Γ k N (.par i j a b) := by
  intro sc s hc X S hp B R0 H0 R H σ ρ kt E o w en
  exact absurd hc Bool.false_ne_true
theorem sss_nil : SSs Γ k N .nil := by
  intro sc s hc X S hp B R0 H0 R H σ ρ kt E o w en
  cases s with
  | cons _ _ => exact absurd hc Bool.false_ne_true
  | nil => exact of_pss pss_nil (en.nx _ _ _ _ (Same.refl _) o w)
theorem sss_cons {s : CS} {ss : CSs} (hs : SS Γ k N s) (hss : SSs Γ k N ss) : SSs Γ k N (.cons s ss) := by
  intro sc l hc X S hp B R0 H0 R H σ ρ kt E o w en
  cases l with
  | nil => exact absurd hc Bool.false_ne_true
  | cons x l =>
    simp only [chkSs, Bool.and_eq_true] at hc
    refine of_pss (pss_cons (ps_wpt x) (pss_wpt l)) ?_
    refine hs sc x hc.1 X S hp B R0 H0 R H σ ρ _ _ o w ⟨fun σ' ρ' R' H' s' o' w' => ?_, en.bk, en.ct, en.rt⟩
    exact hss sc l hc.2 X S hp B R0 H0 R' H' σ' ρ' kt E o' w' (en.up s')
theorem ss_never : SS Γ k N .never := by
  intro sc s hc X S hp B R0 H0 R H σ ρ kt E o w en
  exact False.elim w
mutual
theorem sS : ∀ s : CS, SS Γ k N s
  | .set i e => ss_set i e
  | .setT is e => ss_setT is e
  | .par i j a b => ss_par i j a b
  | .expr e => ss_expr e
  | .ret e => ss_ret e
  | .retN => ss_retN
  | .pass => ss_pass
  | .brk => ss_brk
  | .cont => ss_cont
  | .ite t a b => ss_ite (sSs a) (sSs b)
  | .for_ tg it body => ss_for (sSs body)
  | .never => ss_never
theorem sSs : ∀ s : CSs, SSs Γ k N s
  | .nil => sss_nil
  | .cons s ss => sss_cons (sS s) (sSs ss)
end

/-! ### defs -/
/-- the slots at the entry -/
def start0 (n : Nat) (ds : List D) : List Sl := ds.map Sl.dat ++ List.replicate (n - ds.length) .no
theorem start_ok {K : PySem.W.Frag} {B : Addr} {R H : Hp} (s : Same R H) (b : BagOk B R H) {vs : List V} {ds : List D} (r : RdAll K B R vs ds) : Ok K B R H R H (L2.start N vs) (start0 N.length ds) := by
  have hl := r.length
  refine ⟨s, b, ?_, fun i x h => ?_, fun i j ds' es a hij h1 => ?_, Nx.refl s b⟩
  · unfold L2.start start0; simp [hl]
  · unfold start0 at h
    by_cases hi : i < ds.length
    · rw [List.getElem?_append_left (by simpa using hi), List.getElem?_map] at h
      have hd : ds[i]? = some ds[i] := List.getElem?_eq_getElem hi
      rw [hd] at h
      cases h
      obtain ⟨v, hv, rv⟩ := r.get' hd
      refine ⟨v, ?_, rv⟩
      unfold L2.start
      rw [List.getElem?_append_left (by simp [hl, hi]), List.getElem?_map, hv]; rfl
    · rw [List.getElem?_append_right (by simpa using hi), List.getElem?_replicate] at h
      split at h
      · cases h; trivial
      · cases h
  · exfalso
    unfold start0 at h1
    by_cases hi : i < ds.length
    · rw [List.getElem?_append_left (by simpa using hi), List.getElem?_map] at h1
      have hd : ds[i]? = some ds[i] := List.getElem?_eq_getElem hi
      rw [hd] at h1
      cases h1
    · rw [List.getElem?_append_right (by simpa using hi), List.getElem?_replicate] at h1
      split at h1 <;> cases h1
/-- what a def's body gives for the arguments ds -/
def wF (Γ : Sg) (n : Nat) (body : CSs) (ds : List D) (W : D → Prop) : Prop := wSs Γ body { nx := fun _ => W .non, rt := W } (start0 n ds)
theorem fn_ok {P : Program} {w : World} {K : PySem.W.Frag} {mg : Str → Option Value} {base : Heap} {x qual : Str} {st : Stmt} {f : Addr} {fd : FuncData} {ps : List Str} {body : CSs} {sp : List D → (D → Prop) → Prop}
    (F : Fun K x qual st f fd) (S : FnScope N ps (defScope st)) (G : SgOk Γ k P w K mg base) (hc : chkSs N (defScope st) body (defBody st) = true) (hl : ∀ ds W, sp ds W → ds.length = ps.length) (hb : ∀ ds W, sp ds W → wF Γ N.length body ds W) :
    FnOk P w K mg base CX0 (k + 1) f fd ps (spD K sp) := by
  refine F.ok S (fun vs H Q E h => ?_) (fun cdv A outer s H vs Q E hr h => ?_)
  · obtain ⟨B, R, ds, W, _, _, r, q, _⟩ := h
    rw [r.length]; exact hl _ _ q
  · obtain ⟨B, R, ds, W, s1, b1, r, q, t⟩ := h
    refine ⟨_, pss_wpt _, ?_⟩
    have SX : StX Γ k N (defScope st) (defScope st) (cxOf CX0 P w K mg base N qual (defScope st) f cdv A outer s H E).nox :=
      ⟨rfl, rfl, S.kind, S.nd, rfl, hr, fun x l => ⟨l, .inl rfl⟩, G⟩
    refine sSs (Γ := Γ) (k := k) (N := N) body (defScope st) (defBody st) hc _ SX PassesOwn.never B R H R H _ (start0 N.length ds) _ _ (start_ok s1 b1 r) (hb _ _ q) ⟨?_, ?_, ?_, ?_⟩
    · exact fun σ ρ R' H' _ o hw => t _ _ _ _ o.ext .non hw
    · exact fun σ ρ R' H' _ o hw => hw.elim
    · exact fun σ ρ R' H' _ o hw => hw.elim
    · exact fun v d R' H' n r hw => t _ _ _ _ n r hw
end
end DL
set_option maxHeartbeats 4000000
/-! DL: laws of the data semantics; the helpers that all laws share. -/
namespace DL
open PySem PySem.Spec PyProof.Rows L2
theorem beqT (b : Bool) : (b == true) = b := by cases b <;> rfl
theorem beqF (b : Bool) : (b == false) = !b := by cases b <;> rfl
def Sg0 : Sg := ⟨fun _ => none, fun _ => none⟩
def Sg.add (Γ : Sg) (x : Str) (r : FnR) : Sg := ⟨fun y => if y = x then some r else Γ.fn y, Γ.gl⟩
theorem Sg.add_same (Γ : Sg) (x : Str) (r : FnR) : (Γ.add x r).fn x = some r := if_pos rfl
theorem Sg.add_ne {Γ : Sg} {x y : Str} {r : FnR} (h : ¬ y = x) : (Γ.add x r).fn y = Γ.fn y := if_neg h
/-- a def as the laws' ends know it -/
structure FnE (K : PySem.W.Frag) (mg : Str → Option Value) (P : Program) (w : World) (base : Heap) (k : Nat) (x : Str) (r : FnR) : Prop where
  ex : ∃ (f : Addr) (fd : FuncData), mg x = some (.ref f) ∧ PySem.W.keepIn K (.ref f) = true ∧ Binds K fd r.ps [] ∧ FnOk P w K mg base CX0 k f fd r.ps (spD K r.sp) ∧
    ∀ (j : Nat) (q : Nat × List Str × List (Nat ⊕ D)), r.kw[j]? = some q → KB K fd r.ps q.1 q.2.1 q.2.2
theorem FnE.up {K : PySem.W.Frag} {mg : Str → Option Value} {P : Program} {w : World} {base : Heap} {k k' : Nat} {x : Str} {r : FnR} (h : FnE K mg P w base k x r) (l : k ≤ k') : FnE K mg P w base k' x r := by
  obtain ⟨f, fd, a, b, c, d, e⟩ := h.ex
  exact ⟨f, fd, a, b, c, d.mono l, e⟩
section
variable {P : Program} {w : World} {K : PySem.W.Frag} {mg : Str → Option Value} {base : Heap} {k : Nat}
theorem sg_nil (h : ∀ x, x ∈ blN → mg x = none) : SgOk Sg0 k P w K mg base := ⟨fun x r e => (by cases e), h, fun x d e => (by cases e)⟩
theorem sg_add {Γ : Sg} {x : Str} {r : FnR} (G : SgOk Γ k P w K mg base) (h : FnE K mg P w base k x r) : SgOk (Γ.add x r) k P w K mg base := by
  refine ⟨fun y r' e => ?_, G.bl, G.gl⟩
  by_cases c : y = x
  · subst c
    rw [Sg.add_same] at e
    cases e
    exact h.ex
  · rw [Sg.add_ne c] at e
    exact G.fn y r' e
end
/-! ### comprehensions, loops -/
theorem lcD_map {bind : D → (List Sl → Prop) → Prop} {cond : List Sl → (Bool → Prop) → Prop} {elt : List Sl → (D → Prop) → Prop} (f : D → D) : ∀ {xs acc : List D} {Q : List D → Prop},
    (∀ x ∈ xs, ∀ (P : D → Prop) (E : Prop), P (f x) → bind x fun ρ1 => cond ρ1 fun b => iteP b (elt ρ1 P) E) → Q (acc ++ xs.map f) → lcD bind cond elt xs acc Q
  | [], acc, Q, _, h => by simpa [lcD] using h
  | x :: xs, acc, Q, hf, h => by
    simp only [lcD]
    refine hf x List.mem_cons_self _ _ ?_
    refine lcD_map f (fun y hy => hf y (List.mem_cons_of_mem _ hy)) ?_
    simpa using h
/-- each item made is one of some -/
theorem lcD_any {bind : D → (List Sl → Prop) → Prop} {cond : List Sl → (Bool → Prop) → Prop} {elt : List Sl → (D → Prop) → Prop} (p : D → Prop) : ∀ {xs acc : List D} {Q : List D → Prop},
    (∀ x ∈ xs, ∀ (P : D → Prop) (E : Prop), (∀ y, p y → P y) → bind x fun ρ1 => cond ρ1 fun b => iteP b (elt ρ1 P) E) → (∀ ys : List D, ys.length = xs.length → (∀ y ∈ ys, p y) → Q (acc ++ ys)) → lcD bind cond elt xs acc Q
  | [], acc, Q, _, h => by have := h [] rfl (by simp); simpa [lcD] using this
  | x :: xs, acc, Q, hf, h => by
    simp only [lcD]
    refine hf x List.mem_cons_self _ _ fun y hy => ?_
    refine lcD_any p (fun y hy => hf y (List.mem_cons_of_mem _ hy)) fun ys hl hp => ?_
    have := h (y :: ys) (by simp [hl]) (fun z hz => by
      rcases List.mem_cons.mp hz with rfl | hz
      · exact hy
      · exact hp z hz)
    simpa using this
/-- a loop by what holds between its turns -/
theorem forD_inv {bind : D → List Sl → (List Sl → Prop) → Prop} {body : Kt → List Sl → Prop} {k : Kt} (Inv : List Sl → Prop) : ∀ {xs : List D} {ρ : List Sl}, Inv ρ →
    (∀ x ∈ xs, ∀ ρ, Inv ρ → ∀ k' : Kt, k'.rt = k.rt → (∀ ρ', Inv ρ' → k'.nx ρ') → (∀ ρ', Inv ρ' → k'.ct ρ') → k'.bk = k.nx → bind x ρ (body k')) → (∀ ρ, Inv ρ → k.nx ρ) → forD bind body k xs ρ
  | [], ρ, h, _, hd => hd ρ h
  | x :: xs, ρ, h, hs, hd => by
    simp only [forD]
    have ih : ∀ ρ', Inv ρ' → forD bind body k xs ρ' := fun ρ' h' => forD_inv Inv h' (fun y hy => hs y (List.mem_cons_of_mem _ hy)) hd
    exact hs x List.mem_cons_self ρ h _ rfl ih ih rfl

/-! ### small data -/
def isI : D → Bool
  | .int _ => true
  | _ => false
theorem flat_bl (bs : List Bool) : flatTs (bs.map D.bl) = some bs := by
  induction bs with
  | nil => rfl
  | cons b bs ih => simp only [List.map_cons, flatTs, flatT, ih]
theorem flat_int (ns : List Int) : flatTs (ns.map D.int) = some (ns.map (· != 0)) := by
  induction ns with
  | nil => rfl
  | cons b bs ih => simp only [List.map_cons, flatTs, flatT, ih]
theorem all_map {α : Type} (f : α → Bool) (xs : List α) : (xs.map f).all id = xs.all f := by
  induction xs with
  | nil => rfl
  | cons x xs ih => simp only [List.map_cons, List.all_cons, ih, id]
theorem any_map {α : Type} (f : α → Bool) (xs : List α) : (xs.map f).any id = xs.any f := by
  induction xs with
  | nil => rfl
  | cons x xs ih => simp only [List.map_cons, List.any_cons, ih, id]
theorem bl_map {α : Type} (f : α → Bool) (xs : List α) : (xs.map fun x => D.bl (f x)) = (xs.map f).map D.bl := by simp
/-- all items ints -/
theorem ints_ex : ∀ {ys : List D}, (∀ y ∈ ys, ∃ i, y = .int i) → ∃ ns : List Int, ys = ns.map D.int
  | [], _ => ⟨[], rfl⟩
  | y :: ys, h => by
    obtain ⟨i, rfl⟩ := h y List.mem_cons_self
    obtain ⟨ns, rfl⟩ := ints_ex fun z hz => h z (List.mem_cons_of_mem _ hz)
    exact ⟨i :: ns, rfl⟩
theorem lay_ints (ns : List Int) : layDs (ns.map D.int) = true := by
  induction ns with
  | nil => rfl
  | cons n ns ih => simp only [List.map_cons, layDs, layD, ih, Bool.and_self]
theorem dep_ints (ns : List Int) : depDs (ns.map D.int) = 0 := by
  induction ns with
  | nil => rfl
  | cons n ns ih => simp only [List.map_cons, depDs, depD, ih, Nat.max_self]

/-! ### the shared helpers -/
/-- a draw below many -/
def sp_pull : List D → (D → Prop) → Prop
  | [.bag, .int m], W => (0 < m ∧ m ≤ 1000000000000000000000000000000) ∧ ∀ i, 0 ≤ i → i < m → W (.int i)
  | _, _ => False
def r_pull : FnR := ⟨["_law_bag", "_law_many"], sp_pull, []⟩
/-- one of some things -/
def sp_any : List D → (D → Prop) → Prop
  | [.bag, .lst xs], W => (xs ≠ [] ∧ xs.length ≤ sizeLine) ∧ ∀ d ∈ xs, W d
  | _, _ => False
def r_any : FnR := ⟨["_law_bag", "_law_things"], sp_any, []⟩
mutual
/-- equal and of the same kinds -/
def sameD : D → D → Bool
  | .non, .non => true
  | .bl a, .bl b => a == b
  | .int a, .int b => a == b
  | .str a, .str b => a == b
  | .lst xs, .lst ys => sameDs xs ys
  | .tup xs, .tup ys => sameDs xs ys
  | _, _ => false
def sameDs : List D → List D → Bool
  | [], [] => true
  | x :: xs, y :: ys => sameD x y && sameDs xs ys
  | _, _ => false
end
mutual
theorem same_refl : ∀ {x : D}, layD x = true → sameD x x = true
  | .non, _ => by simp [sameD]
  | .bl _, _ => by simp [sameD]
  | .int _, _ => by simp [sameD]
  | .str _, _ => by simp [sameD]
  | .lst xs, h => by simp only [layD] at h; simp only [sameD]; exact sames_refl h
  | .tup xs, h => by simp only [layD] at h; simp only [sameD]; exact sames_refl h
  | .dct _, h => by simp only [layD] at h; cases h
  | .bag, h => by simp only [layD] at h; cases h
theorem sames_refl : ∀ {xs : List D}, layDs xs = true → sameDs xs xs = true
  | [], _ => by simp [sameDs]
  | x :: xs, h => by
    simp only [layDs, Bool.and_eq_true] at h
    simp only [sameDs, same_refl h.1, sames_refl h.2, Bool.and_self]
end
theorem sames_zip : ∀ {xs ys : List D}, xs.length = ys.length → (List.zipWith sameD xs ys).all id = sameDs xs ys
  | [], [], _ => rfl
  | [], _ :: _, h => by simp at h
  | _ :: _, [], h => by simp at h
  | x :: xs, y :: ys, h => by
    simp only [List.zipWith_cons_cons, List.all_cons, sameDs, id]
    rw [sames_zip (by simpa using h)]
theorem sames_len : ∀ {xs ys : List D}, xs.length ≠ ys.length → sameDs xs ys = false
  | [], [], h => by simp at h
  | [], _ :: _, _ => by simp [sameDs]
  | _ :: _, [], _ => by simp [sameDs]
  | x :: xs, y :: ys, h => by
    simp only [sameDs]
    rw [sames_len (by simpa using h), Bool.and_false]
def sp_like (n : Nat) : List D → (D → Prop) → Prop
  | [a, b], W => (layD a = true ∧ layD b = true ∧ depD b < n) ∧ W (.bl (sameD a b))
  | _, _ => False
def r_like (n : Nat) : FnR := ⟨["_law_found", "_law_due"], sp_like n, []⟩
theorem lay_bag {a : D} (h : layD a = true) : a ≠ .bag := by
  intro e; subst e; simp only [layD] at h; cases h
theorem lays_mem : ∀ {xs : List D} {x : D}, layDs xs = true → x ∈ xs → layD x = true
  | y :: ys, x, h, hx => by
    simp only [layDs, Bool.and_eq_true] at h
    rcases List.mem_cons.mp hx with rfl | hx
    · exact h.1
    · exact lays_mem h.2 hx
theorem deps_mem : ∀ {xs : List D} {x : D}, x ∈ xs → depD x ≤ depDs xs
  | y :: ys, x, hx => by
    simp only [depDs]
    rcases List.mem_cons.mp hx with rfl | hx
    · omega
    · have := deps_mem hx; omega
end DL
set_option maxHeartbeats 4000000
namespace K2
open PySem PySem.Spec PyProof.Rows L2 DL
def topS (i : Nat) : Stmt := PySem.Challenge.pw_onekink_k02_numbers_and_vectors.main.body.getD i (.Pass ⟨0, 0, 0, 0⟩)
abbrev s_is_number : Stmt := topS 1
abbrev n_is_number : List Str := ["value", "least", "most"]
abbrev p_is_number : List Str := ["value", "least", "most"]
theorem sc_is_number : FnScope n_is_number p_is_number (defScope s_is_number) := ⟨rfl, rfl, rfl, by decide +kernel, rfl, by decide +kernel, by decide +kernel⟩
def b_is_number : CSs := (.cons (.ret (.bop true (.isi (.var 0) .int) (.bop true (.not (.isi (.var 0) .bool)) (.chain .le .le (.var 1) (.var 0) (.var 2))))) .nil)
theorem k_is_number : chkSs n_is_number (defScope s_is_number) b_is_number (defBody s_is_number) = true := by decide +kernel
abbrev s_is_integer : Stmt := topS 2
abbrev n_is_integer : List Str := ["value"]
abbrev p_is_integer : List Str := ["value"]
theorem sc_is_integer : FnScope n_is_integer p_is_integer (defScope s_is_integer) := ⟨rfl, rfl, rfl, by decide +kernel, rfl, by decide +kernel, by decide +kernel⟩
def b_is_integer : CSs := (.cons (.ret (.bop true (.isi (.var 0) .int) (.not (.isi (.var 0) .bool)))) .nil)
theorem k_is_integer : chkSs n_is_integer (defScope s_is_integer) b_is_integer (defBody s_is_integer) = true := by decide +kernel
abbrev s_is_vector : Stmt := topS 3
abbrev n_is_vector : List Str := ["value", "size", "entry"]
abbrev p_is_vector : List Str := ["value", "size"]
theorem sc_is_vector : FnScope n_is_vector p_is_vector (defScope s_is_vector) := ⟨rfl, rfl, rfl, by decide +kernel, rfl, by decide +kernel, by decide +kernel⟩
def b_is_vector : CSs := (.cons (.ret (.bop true (.isi (.var 0) .tuple) (.bop true (.cmp .eq (.bcall .len (.cons (.var 0) .nil)) (.var 1)) (.bcall .all (.cons (.lc (.one 2) (.seq (.var 0)) .none (.call "is_integer" (.cons (.var 2) .nil)) [("entry", 2)]) .nil))))) .nil)
theorem k_is_vector : chkSs n_is_vector (defScope s_is_vector) b_is_vector (defBody s_is_vector) = true := by decide +kernel
abbrev s_is_part : Stmt := topS 4
abbrev n_is_part : List Str := ["one", "other", "a", "b"]
abbrev p_is_part : List Str := ["one", "other"]
theorem sc_is_part : FnScope n_is_part p_is_part (defScope s_is_part) := ⟨rfl, rfl, rfl, by decide +kernel, rfl, by decide +kernel, by decide +kernel⟩
def b_is_part : CSs := (.cons (.ret (.bop true (.cmp .eq (.bcall .len (.cons (.var 0) .nil)) (.bcall .len (.cons (.var 1) .nil))) (.bcall .all (.cons (.lc (.tup [2, 3]) (.zip (.var 0) (.var 1)) .none (.bop false (.chain .le .le (.int 0) (.var 2) (.var 3)) (.chain .le .le (.var 3) (.var 2) (.int 0))) [("a", 2), ("b", 3)]) .nil)))) .nil)
theorem k_is_part : chkSs n_is_part (defScope s_is_part) b_is_part (defBody s_is_part) = true := by decide +kernel
abbrev s_is_zero : Stmt := topS 5
abbrev n_is_zero : List Str := ["vector", "entry"]
abbrev p_is_zero : List Str := ["vector"]
theorem sc_is_zero : FnScope n_is_zero p_is_zero (defScope s_is_zero) := ⟨rfl, rfl, rfl, by decide +kernel, rfl, by decide +kernel, by decide +kernel⟩
def b_is_zero : CSs := (.cons (.ret (.not (.bcall .any (.cons (.lc (.one 1) (.seq (.var 0)) .none (.cmp .ne (.var 1) (.int 0)) [("entry", 1)]) .nil)))) .nil)
theorem k_is_zero : chkSs n_is_zero (defScope s_is_zero) b_is_zero (defBody s_is_zero) = true := by decide +kernel
abbrev s_l_draws : Stmt := topS 7
abbrev n_l_draws : List Str := ["_law_script"]
abbrev p_l_draws : List Str := ["_law_script"]
theorem sc_l_draws : FnScope n_l_draws p_l_draws (defScope s_l_draws) := ⟨rfl, rfl, rfl, by decide +kernel, rfl, by decide +kernel, by decide +kernel⟩
abbrev s_l_pull : Stmt := topS 8
abbrev n_l_pull : List Str := ["_law_bag", "_law_many", "_law_seed", "_law_cell", "_law_digit"]
abbrev p_l_pull : List Str := ["_law_bag", "_law_many"]
theorem sc_l_pull : FnScope n_l_pull p_l_pull (defScope s_l_pull) := ⟨rfl, rfl, rfl, by decide +kernel, rfl, by decide +kernel, by decide +kernel⟩
abbrev s_l_any : Stmt := topS 9
abbrev n_l_any : List Str := ["_law_bag", "_law_things"]
abbrev p_l_any : List Str := ["_law_bag", "_law_things"]
theorem sc_l_any : FnScope n_l_any p_l_any (defScope s_l_any) := ⟨rfl, rfl, rfl, by decide +kernel, rfl, by decide +kernel, by decide +kernel⟩
def b_l_any : CSs := (.cons (.ret (.sub (.var 1) (.call "_law_pull" (.cons (.var 0) (.cons (.bcall .len (.cons (.var 1) .nil)) .nil))))) .nil)
theorem k_l_any : chkSs n_l_any (defScope s_l_any) b_l_any (defBody s_l_any) = true := by decide +kernel
abbrev s_l_like : Stmt := topS 10
abbrev n_l_like : List Str := ["_law_found", "_law_due", "_law_name", "_law_one_in", "_law_other_in"]
abbrev p_l_like : List Str := ["_law_found", "_law_due"]
theorem sc_l_like : FnScope n_l_like p_l_like (defScope s_l_like) := ⟨rfl, rfl, rfl, by decide +kernel, rfl, by decide +kernel, by decide +kernel⟩
def b_l_like : CSs := (.cons (.ite (.isi (.var 1) .dict) (.cons (.ite (.bop false (.not (.isi (.var 0) .dict)) (.cmp .ne (.bcall .len (.cons (.var 0) .nil)) (.bcall .len (.cons (.var 1) .nil)))) (.cons (.ret (.bl false)) .nil) .nil) (.cons .never .nil)) .nil) (.cons (.ite (.isis (.var 1) [.list, .tuple]) (.cons (.ite (.bop false (.cmp .ne (.isi (.var 0) .list) (.isi (.var 1) .list)) (.cmp .ne (.isi (.var 0) .tuple) (.isi (.var 1) .tuple))) (.cons (.ret (.bl false)) .nil) .nil) (.cons (.ret (.bop true (.cmp .eq (.bcall .len (.cons (.var 0) .nil)) (.bcall .len (.cons (.var 1) .nil))) (.bcall .all (.cons (.lc (.tup [3, 4]) (.zip (.var 0) (.var 1)) .none (.call "_law_like" (.cons (.var 3) (.cons (.var 4) .nil))) [("_law_one_in", 3), ("_law_other_in", 4)]) .nil)))) .nil)) .nil) (.cons (.ite (.bop false (.cmp .isN (.var 1) .non) (.cmp .isN (.var 0) .non)) (.cons (.ret (.bop true (.cmp .isN (.var 1) .non) (.cmp .isN (.var 0) .non))) .nil) .nil) (.cons (.ite (.bop false (.cmp .ne (.isi (.var 0) .bool) (.isi (.var 1) .bool)) (.cmp .ne (.isi (.var 0) .int) (.isi (.var 1) .int))) (.cons (.ret (.bl false)) .nil) .nil) (.cons (.ret (.bop true (.cmp .eq (.isi (.var 0) .str) (.isi (.var 1) .str)) (.cmp .eq (.var 0) (.var 1)))) .nil)))))
theorem k_l_like : chkSs n_l_like (defScope s_l_like) b_l_like (defBody s_l_like) = true := by decide +kernel
abbrev s_l_is_part : Stmt := topS 11
abbrev n_l_is_part : List Str := ["_law_one_in", "_law_other_in", "_law_a", "_law_b"]
abbrev p_l_is_part : List Str := ["_law_one_in", "_law_other_in"]
theorem sc_l_is_part : FnScope n_l_is_part p_l_is_part (defScope s_l_is_part) := ⟨rfl, rfl, rfl, by decide +kernel, rfl, by decide +kernel, by decide +kernel⟩
def b_l_is_part : CSs := (.cons (.ret (.bop true (.cmp .eq (.bcall .len (.cons (.var 0) .nil)) (.bcall .len (.cons (.var 1) .nil))) (.bcall .all (.cons (.lc (.tup [2, 3]) (.zip (.var 0) (.var 1)) .none (.bop false (.chain .le .le (.int 0) (.var 2) (.var 3)) (.chain .le .le (.var 3) (.var 2) (.int 0))) [("_law_a", 2), ("_law_b", 3)]) .nil)))) .nil)
theorem k_l_is_part : chkSs n_l_is_part (defScope s_l_is_part) b_l_is_part (defBody s_l_is_part) = true := by decide +kernel
abbrev s_law : Stmt := topS 12
abbrev n_law : List Str := ["_law_script", "_law_bag", "_law_turn", "_law_odd", "_law_found", "_law_spots", "_law_size_in", "_law_vector", "_law_other_in", "_law_low", "_law_wide", "_law_at", "_law_thing", "_law_spot", "_law_step", "_law_entry"]
abbrev p_law : List Str := ["_law_script"]
theorem sc_law : FnScope n_law p_law (defScope s_law) := ⟨rfl, rfl, rfl, by decide +kernel, rfl, by decide +kernel, by decide +kernel⟩
def b_law : CSs := (.cons (.for_ (.one 2) (.rng1 (.int 6)) (.cons (.setT [9, 10] (.tup (.cons (.bin .sub (.call "_law_pull" (.cons (.var 1) (.cons (.bin .pow (.int 10) (.int 17)) .nil))) (.bin .pow (.int 10) (.int 16))) (.cons (.call "_law_any" (.cons (.var 1) (.cons (.lst (.cons (.int 0) (.cons (.int 1) (.cons (.int 5) (.cons (.call "_law_pull" (.cons (.var 1) (.cons (.bin .pow (.int 10) (.int 9)) .nil))) .nil))))) .nil))) .nil)))) (.cons (.set 5 (.lst (.cons (.bin .sub (.var 9) (.int 1)) (.cons (.var 9) (.cons (.bin .add (.var 9) (.var 10)) (.cons (.bin .add (.bin .add (.var 9) (.var 10)) (.int 1)) (.cons (.bin .add (.var 9) (.call "_law_pull" (.cons (.var 1) (.cons (.bin .add (.var 10) (.int 1)) .nil)))) .nil))))))) (.cons (.ite (.cmp .ne (.lc (.one 13) (.seq (.var 5)) .none (.call "is_number" (.cons (.var 13) (.cons (.var 9) (.cons (.bin .add (.var 9) (.var 10)) .nil)))) [("_law_spot", 13)]) (.lst (.cons (.bl false) (.cons (.bl true) (.cons (.bl true) (.cons (.bl false) (.cons (.bl true) .nil))))))) (.cons (.ret (.bl false)) .nil) .nil) (.cons (.set 6 (.call "_law_pull" (.cons (.var 1) (.cons (.int 6) .nil)))) (.cons (.set 7 (.bcall .tuple (.cons (.lc (.one 14) (.rng1 (.var 6)) .none (.call "_law_any" (.cons (.var 1) (.cons (.lst (.cons (.int 0) (.cons (.int 1) (.cons (.bin .sub (.int 0) (.int 1)) (.cons (.bin .sub (.call "_law_pull" (.cons (.var 1) (.cons (.int 9) .nil))) (.int 4)) (.cons (.call "_law_pull" (.cons (.var 1) (.cons (.bin .pow (.int 10) (.int 17)) .nil))) .nil)))))) .nil))) [("_law_step", 14)]) .nil))) (.cons (.set 4 (.lst (.cons (.call "is_vector" (.cons (.var 7) (.cons (.var 6) .nil))) (.cons (.callK "is_vector" .nil ["value", "size"] (.cons (.var 7) (.cons (.bin .add (.var 6) (.int 1)) .nil)) 0) (.cons (.call "is_vector" (.cons (.bcall .list (.cons (.var 7) .nil)) (.cons (.var 6) .nil))) (.cons (.call "is_zero" (.cons (.var 7) .nil)) .nil)))))) (.cons (.ite (.not (.call "_law_like" (.cons (.var 4) (.cons (.lst (.cons (.bl true) (.cons (.bl false) (.cons (.bl false) (.cons (.not (.bcall .any (.cons (.var 7) .nil))) .nil))))) .nil)))) (.cons (.ret (.bl false)) .nil) .nil) (.cons (.set 8 (.bcall .tuple (.cons (.lc (.one 15) (.seq (.var 7)) .none (.call "_law_any" (.cons (.var 1) (.cons (.lst (.cons (.var 15) (.cons (.int 0) (.cons (.bin .sub (.int 0) (.var 15)) (.cons (.bin .add (.var 15) (.int 1)) (.cons (.bin .sub (.var 15) (.int 1)) (.cons (.bin .fdiv (.var 15) (.int 2)) .nil))))))) .nil))) [("_law_entry", 15)]) .nil))) (.cons (.set 4 (.lst (.cons (.call "is_part" (.cons (.var 8) (.cons (.var 7) .nil))) (.cons (.callK "is_part" .nil ["one", "other"] (.cons (.var 7) (.cons (.var 8) .nil)) 0) (.cons (.call "is_part" (.cons (.var 7) (.cons (.var 7) .nil))) (.cons (.call "is_part" (.cons (.bin .add (.var 7) (.tup (.cons (.int 0) .nil))) (.cons (.var 7) .nil))) .nil)))))) (.cons (.ite (.not (.call "_law_like" (.cons (.var 4) (.cons (.lst (.cons (.call "_law_is_part" (.cons (.var 8) (.cons (.var 7) .nil))) (.cons (.call "_law_is_part" (.cons (.var 7) (.cons (.var 8) .nil))) (.cons (.bl true) (.cons (.bl false) .nil))))) .nil)))) (.cons (.ret (.bl false)) .nil) .nil) (.cons (.ite (.cmp .gt (.var 6) (.int 0)) (.cons (.set 11 (.call "_law_pull" (.cons (.var 1) (.cons (.var 6) .nil)))) (.cons (.set 3 (.bin .add (.bin .add (.slice (.var 7) .none (.some (.var 11))) (.tup (.cons (.call "_law_any" (.cons (.var 1) (.cons (.lst (.cons .non (.cons (.bl true) (.cons (.bl false) (.cons (.str "1") (.cons (.tup (.cons (.int 1) .nil)) .nil)))))) .nil))) .nil))) (.slice (.var 7) (.some (.bin .add (.var 11) (.int 1))) .none))) (.cons (.ite (.call "is_vector" (.cons (.var 3) (.cons (.var 6) .nil))) (.cons (.ret (.bl false)) .nil) .nil) .nil))) .nil) .nil)))))))))))) (.cons (.set 3 (.lst (.cons .non (.cons (.bl true) (.cons (.bl false) (.cons (.str "1") (.cons (.tup (.cons (.int 1) .nil)) (.cons (.lst (.cons (.int 1) .nil)) (.cons (.dct1 (.int 1) (.int 1)) (.cons (.int 3) .nil)))))))))) (.cons (.ite (.bop false (.cmp .ne (.lc (.one 12) (.seq (.var 3)) .none (.call "is_vector" (.cons (.var 12) (.cons (.int 1) .nil))) [("_law_thing", 12)]) (.lc (.one 12) (.seq (.var 3)) .none (.cmp .eq (.var 12) (.tup (.cons (.int 1) .nil))) [("_law_thing", 12)])) (.not (.call "is_vector" (.cons (.tup .nil) (.cons (.int 0) .nil))))) (.cons (.ret (.bl false)) .nil) .nil) (.cons (.set 4 (.bin .add (.lc (.one 12) (.seq (.var 3)) .none (.call "is_number" (.cons (.var 12) (.cons (.int 0) (.cons (.int 5) .nil)))) [("_law_thing", 12)]) (.lst (.cons (.callK "is_number" .nil ["most", "least", "value"] (.cons (.int 2) (.cons (.int 2) (.cons (.int 2) .nil))) 0) (.cons (.call "is_zero" (.cons (.tup .nil) .nil)) (.cons (.call "is_part" (.cons (.tup .nil) (.cons (.tup .nil) .nil))) .nil)))))) (.cons (.ret (.call "_law_like" (.cons (.var 4) (.cons (.bin .add (.bin .mul (.lst (.cons (.bl false) .nil)) (.int 7)) (.lst (.cons (.bl true) (.cons (.bl true) (.cons (.bl true) (.cons (.bl true) .nil)))))) .nil)))) .nil)))))
theorem k_law : chkSs n_law (defScope s_law) b_law (defBody s_law).tail = true := by decide +kernel
end K2
set_option maxHeartbeats 4000000
namespace K2
open PySem PySem.Spec PyProof.Rows L2 DL
/-! ### what each def gives, over data -/
local macro_rules | `(tactic| walk_at "dl") => `(tactic| simp only [wF, wSs, wS, wE, wEs, wO, wC, wI, start0, bindT, setAll, wipeD, truD, cmpD, binD, bD, subD, slD, isiD, lenOb, iteP_true, iteP_false, List.map_cons, List.map_nil, List.length_cons, List.length_nil, List.cons_append, List.nil_append, List.getElem?_cons_zero, List.getElem?_cons_succ, List.set_cons_zero, List.set_cons_succ, List.replicate_succ, List.replicate_zero, CEs.len, reduceCtorEq, ne_eq, not_false_eq_true, true_and, Bool.not_true, Bool.not_false, Nat.reduceAdd, Nat.reduceSub, beq_self_eq_true, beqT, beqF])
def isNum (d : D) (lo hi : Int) : Bool := match d with
  | .int i => decide (lo ≤ i) && decide (i ≤ hi)
  | _ => false
def isVec (d : D) (n : Int) : Bool := match d with
  | .tup xs => decide ((xs.length : Int) = n) && xs.all isI
  | _ => false
def noBag : D → Prop
  | .tup xs => ∀ x ∈ xs, x ≠ .bag
  | .bag => False
  | _ => True
def prt (a b : Int) : Bool := (decide (0 ≤ a) && decide (a ≤ b)) || (decide (b ≤ a) && decide (a ≤ 0))
def isPart (xs ys : List Int) : Bool := decide (xs.length = ys.length) && (List.zipWith prt xs ys).all id
def sp_is_integer : List D → (D → Prop) → Prop
  | [d], W => d ≠ .bag ∧ W (.bl (isI d))
  | _, _ => False
def sp_is_number : List D → (D → Prop) → Prop
  | [d, .int lo, .int hi], W => d ≠ .bag ∧ W (.bl (isNum d lo hi))
  | _, _ => False
def sp_is_vector : List D → (D → Prop) → Prop
  | [d, .int n], W => noBag d ∧ W (.bl (isVec d n))
  | _, _ => False
def sp_is_part : List D → (D → Prop) → Prop
  | [.tup xs, .tup ys], W => ∃ (ns ms : List Int), xs = ns.map D.int ∧ ys = ms.map D.int ∧ W (.bl (isPart ns ms))
  | _, _ => False
def sp_is_zero : List D → (D → Prop) → Prop
  | [.tup xs], W => ∃ ns : List Int, xs = ns.map D.int ∧ W (.bl (!ns.any (· != 0)))
  | _, _ => False
def r_is_integer : FnR := ⟨["value"], sp_is_integer, []⟩
def r_is_number : FnR := ⟨["value", "least", "most"], sp_is_number, [(0, ["most", "least", "value"], [.inl 2, .inl 1, .inl 0])]⟩
def r_is_vector : FnR := ⟨["value", "size"], sp_is_vector, [(0, ["value", "size"], [.inl 0, .inl 1])]⟩
def r_is_part : FnR := ⟨["one", "other"], sp_is_part, [(0, ["one", "other"], [.inl 0, .inl 1])]⟩
def r_is_zero : FnR := ⟨["vector"], sp_is_zero, []⟩
def r_l_is_part : FnR := ⟨["_law_one_in", "_law_other_in"], sp_is_part, []⟩
theorem w_is_integer {Γ : Sg} {d : D} {W : D → Prop} (hd : d ≠ .bag) (h : W (.bl (isI d))) : wF Γ 1 b_is_integer [d] W := by
  unfold b_is_integer
  cases d <;> first | exact absurd rfl hd | (walk_at "dl"; exact h)
theorem w_is_number {Γ : Sg} {d : D} {lo hi : Int} {W : D → Prop} (hd : d ≠ .bag) (h : W (.bl (isNum d lo hi))) : wF Γ 3 b_is_number [d, .int lo, .int hi] W := by
  unfold b_is_number
  cases d <;> first | exact absurd rfl hd | skip
  all_goals walk_at "dl"
  all_goals first | exact h | skip
  simp only [isNum] at h
  rename_i i
  refine iteP_of (fun c => ?_) (fun c => ?_)
  · rw [c, Bool.true_and] at h; exact h
  · rw [c, Bool.false_and] at h; exact h
theorem w_is_vector {Γ : Sg} (h1 : Γ.fn "is_integer" = some r_is_integer) {d : D} {n : Int} {W : D → Prop} (hd : noBag d) (h : W (.bl (isVec d n))) : wF Γ 3 b_is_vector [d, .int n] W := by
  unfold b_is_vector
  cases d <;> first | exact hd.elim | skip
  all_goals walk_at "dl"
  all_goals first | exact h | skip
  rename_i xs
  refine ⟨.inl ⟨rfl, rfl, by show min 0 0 ≤ 64; decide⟩, ?_⟩
  simp only [isVec] at h
  have e : eqD (.int xs.length) (.int n) = decide ((xs.length : Int) = n) := by simp only [eqD]; exact (Bool.beq_eq_decide_eq _ _)
  rw [e]
  refine iteP_of (fun c => ?_) (fun c => ?_)
  · rw [c, Bool.true_and] at h
    refine lcD_map (fun x => .bl (isI x)) (fun x hx P E hP => ?_) ?_
    · walk_at "dl"
      simp only [h1]
      exact ⟨hd x hx, hP⟩
    · rw [List.nil_append, bl_map, flat_bl]
      simp only [all_map]
      exact h
  · rw [c, Bool.false_and] at h; rw [c]; exact h
theorem w_prt {Γ : Sg} {ρ : List Sl} {i j : Nat} {a b : Int} (h1 : ρ[i]? = some (.dat (.int a))) (h2 : ρ[j]? = some (.dat (.int b))) {W : D → Prop} (h : W (.bl (prt a b))) :
    wE Γ (.bop false (.chain .le .le (.int 0) (.var i) (.var j)) (.chain .le .le (.var j) (.var i) (.int 0))) ρ W := by
  simp only [wE, h1, h2, cmpD, truD, beqF]
  unfold prt at h
  refine iteP_of (fun c => ?_) (fun c => ?_)
  · rw [c, Bool.true_and] at h
    refine iteP_of (fun c' => ?_) (fun c' => ?_)
    · have q : decide (a ≤ b) = false := by simpa using c'
      rw [q, Bool.false_or] at h
      refine iteP_of (fun c2 => ?_) (fun c2 => ?_)
      · rw [c2, Bool.true_and] at h; exact h
      · rw [c2, Bool.false_and] at h; exact h
    · have q : decide (a ≤ b) = true := by simpa using c'
      rw [q] at h ⊢; rw [Bool.true_or] at h; exact h
  · rw [c, Bool.false_and, Bool.false_or] at h
    refine iteP_of (fun _ => ?_) (fun c' => by simp at c')
    refine iteP_of (fun c2 => ?_) (fun c2 => ?_)
    · rw [c2, Bool.true_and] at h; exact h
    · rw [c2, Bool.false_and] at h; exact h
theorem zip_ints (ns ms : List Int) : zipD (ns.map D.int) (ms.map D.int) = (List.zip ns ms).map fun p => D.tup [.int p.1, .int p.2] := by
  unfold zipD
  rw [List.zipWith_map, List.zip, List.map_zipWith]
theorem zip_prt (ns ms : List Int) : ((List.zip ns ms).map fun p => prt p.1 p.2) = List.zipWith prt ns ms := by
  rw [List.zip, List.map_zipWith]
theorem eq_len (a b : Nat) : eqD (.int (a : Int)) (.int (b : Int)) = decide (a = b) := by
  simp only [eqD]
  rw [Bool.eq_iff_iff, beq_iff_eq, decide_eq_true_eq]
  constructor <;> intro h <;> omega
theorem w_part_any {Γ : Sg} (b : CSs) (y z : Str) (hb : b = (.cons (.ret (.bop true (.cmp .eq (.bcall .len (.cons (.var 0) .nil)) (.bcall .len (.cons (.var 1) .nil))) (.bcall .all (.cons (.lc (.tup [2, 3]) (.zip (.var 0) (.var 1)) .none (.bop false (.chain .le .le (.int 0) (.var 2) (.var 3)) (.chain .le .le (.var 3) (.var 2) (.int 0))) [(y, 2), (z, 3)]) .nil)))) .nil))
    {ns ms : List Int} {W : D → Prop} (h : W (.bl (isPart ns ms))) : wF Γ 4 b [.tup (ns.map D.int), .tup (ms.map D.int)] W := by
  subst hb
  simp only [wF, wSs, wS]
  show wE Γ (.bop true _ _) _ _
  simp only [wE, wEs, wI, wC, start0, List.map_cons, List.map_nil, List.length_cons, List.length_nil, List.cons_append, List.nil_append, List.getElem?_cons_zero, List.getElem?_cons_succ, bD, cmpD, lenOb, true_and, List.replicate_succ, List.replicate_zero, Nat.reduceSub, Nat.reduceAdd, List.length_map]
  refine ⟨.inl ⟨rfl, rfl, by show min 0 0 ≤ 64; decide⟩, ?_⟩
  rw [eq_len]
  simp only [truD, beqT]
  unfold isPart at h
  refine iteP_of (fun c => ?_) (fun c => ?_)
  · rw [c, Bool.true_and] at h
    rw [zip_ints]
    refine lcD_map (fun d => match d with | .tup [.int a, .int b] => .bl (prt a b) | _ => .non) (fun x hx P E hP => ?_) ?_
    · obtain ⟨p, hp, rfl⟩ := List.mem_map.mp hx
      simp only [bindT, wipeD, List.length_cons, List.length_nil, setAll, true_and, List.map_cons, List.map_nil, List.set_cons_zero, List.set_cons_succ, iteP_true]
      have q := @w_prt Γ [Sl.dat (D.tup (List.map D.int ns)), Sl.dat (D.tup (List.map D.int ms)), Sl.dat (D.int p.1), Sl.dat (D.int p.2)] 2 3 p.1 p.2 rfl rfl P hP
      exact q
    · rw [List.nil_append, List.map_map]
      have e : (List.zip ns ms).map ((fun d => match d with | D.tup [.int a, .int b] => D.bl (prt a b) | _ => D.non) ∘ fun p => D.tup [.int p.1, .int p.2]) = (List.zipWith prt ns ms).map D.bl := by
        rw [← zip_prt, List.map_map]; rfl
      rw [e, flat_bl]
      exact h
  · rw [c, Bool.false_and] at h; rw [c]; exact h
theorem w_is_zero {Γ : Sg} {ns : List Int} {W : D → Prop} (h : W (.bl (!ns.any (· != 0)))) : wF Γ 2 b_is_zero [.tup (ns.map D.int)] W := by
  unfold b_is_zero
  walk_at "dl"
  refine lcD_map (fun d => match d with | .int i => .bl (i != 0) | _ => .non) (fun x hx P E hP => ?_) ?_
  · obtain ⟨i, hi, rfl⟩ := List.mem_map.mp hx
    walk_at "dl"
    exact ⟨⟨rfl, rfl, by show min 0 0 ≤ 64; decide⟩, hP⟩
  · rw [List.nil_append, List.map_map]
    have e : ns.map ((fun d => match d with | D.int i => D.bl (i != 0) | _ => D.non) ∘ D.int) = (ns.map (· != 0)).map D.bl := by
      rw [List.map_map]; rfl
    rw [e, flat_bl]
    simp only [any_map, truD]
    exact h
theorem w_any {Γ : Sg} (h1 : Γ.fn "_law_pull" = some r_pull) {xs : List D} {W : D → Prop} (h0 : xs ≠ [] ∧ xs.length ≤ sizeLine) (h : ∀ d ∈ xs, W d) : wF Γ 2 b_l_any [.bag, .lst xs] W := by
  unfold b_l_any
  walk_at "dl"
  rw [h1]
  have hp : 0 < xs.length := List.length_pos_iff.mpr h0.1
  have hs := h0.2
  rw [sizeLine_eq] at hs
  refine ⟨⟨by omega, by omega⟩, fun i h2 h3 => ?_⟩
  have hi : i.toNat < xs.length := by omega
  have e : atI xs i = some xs[i.toNat] := by
    unfold atI ixN
    rw [if_pos h2, if_pos h3]
    simp [hi]
  simp only [subD, e]
  exact h _ (List.getElem_mem hi)
end K2
set_option maxHeartbeats 4000000
namespace K2
open PySem PySem.Spec PyProof.Rows L2 DL
local macro_rules | `(tactic| walk_at "dl") => `(tactic| simp only [wF, wSs, wS, wE, wEs, wO, wC, wI, start0, bindT, setAll, wipeD, truD, cmpD, binD, bD, subD, slD, isiD, lenOb, iteP_true, iteP_false, List.map_cons, List.map_nil, List.length_cons, List.length_nil, List.cons_append, List.nil_append, List.getElem?_cons_zero, List.getElem?_cons_succ, List.set_cons_zero, List.set_cons_succ, List.replicate_succ, List.replicate_zero, CEs.len, reduceCtorEq, ne_eq, not_false_eq_true, true_and, Bool.not_true, Bool.not_false, Nat.reduceAdd, Nat.reduceSub, beq_self_eq_true, beqT, beqF, List.any_cons, List.any_nil, Bool.or_false, Bool.false_or, Bool.true_or, Bool.or_true])
theorem lay_bl (a b : Bool) : EqLay (.bl a) (.bl b) := ⟨rfl, rfl, by show min 0 0 ≤ 64; decide⟩
theorem lay_int (a b : Int) : EqLay (.int a) (.int b) := ⟨rfl, rfl, by show min 0 0 ≤ 64; decide⟩
theorem zip_same (xs ys : List D) : ((zipD xs ys).map fun d => match d with | .tup [x, y] => D.bl (sameD x y) | _ => .non) = (List.zipWith sameD xs ys).map D.bl := by
  unfold zipD
  rw [List.map_zipWith, List.map_zipWith]
theorem zip_mem {xs ys : List D} {p : D} (h : p ∈ zipD xs ys) : ∃ x y, p = .tup [x, y] ∧ x ∈ xs ∧ y ∈ ys := by
  unfold zipD at h
  obtain ⟨i, hi, e⟩ := List.mem_iff_getElem.mp h
  rw [List.getElem_zipWith] at e
  exact ⟨_, _, e.symm, List.getElem_mem _, List.getElem_mem _⟩
theorem w_like {Γ : Sg} {n : Nat} (h1 : Γ.fn "_law_like" = some (r_like n)) {a b : D} {W : D → Prop} (ha : layD a = true) (hb : layD b = true) (hd : depD b < n + 1) (h : W (.bl (sameD a b))) : wF Γ 5 b_l_like [a, b] W := by
  have nb := lay_bag hb
  have na := lay_bag ha
  unfold b_l_like
  cases b <;> first | exact absurd rfl nb | (exfalso; simp [layD] at hb; done) | skip
  all_goals cases a <;> first | exact absurd rfl na | (exfalso; simp [layD] at ha; done) | skip
  all_goals walk_at "dl"
  all_goals first
    | (simp only [sameD] at h; simp only [eqD, lay_bl, EqOk, true_and, true_or, Bool.not_true, Bool.not_false, iteP_true, iteP_false, beq_self_eq_true]; exact h)
    | (simp only [sameD] at h; simp only [eqD, lay_bl, lay_int, EqOk, true_and, true_or, Bool.not_true, Bool.not_false, iteP_true, iteP_false, beq_self_eq_true, Bool.true_beq, Bool.false_beq]; exact h)
    | (simp only [sameD] at h; simp only [eqD, lay_bl, EqOk, true_and, true_or, Bool.not_true, Bool.not_false, iteP_true, iteP_false, beq_self_eq_true, Bool.true_beq, Bool.false_beq]; exact ⟨.inl ⟨ha, hb, by show min 0 0 ≤ 64; decide⟩, h⟩)
    | exact h
    | skip
  all_goals try simp only [eqD, lay_bl, true_and, Bool.not_true, Bool.not_false, iteP_false, iteP_true, beq_self_eq_true]
  all_goals
    rename_i ys xs
    simp only [layD] at ha hb
    simp only [depD] at hd
    simp only [sameD] at h
    refine ⟨.inl (lay_int _ _), ?_⟩
    rw [show ((xs.length : Int) == (ys.length : Int)) = (xs.length == ys.length) from by rw [Bool.eq_iff_iff, beq_iff_eq, beq_iff_eq]; exact ⟨fun q => Int.ofNat.inj q, fun q => congrArg _ q⟩]
    refine iteP_of (fun c => ?_) (fun c => ?_)
    · refine lcD_map (fun d => match d with | .tup [x, y] => .bl (sameD x y) | _ => .non) (fun p hp P E hP => ?_) ?_
      · obtain ⟨x, y, rfl, hx', hy'⟩ := zip_mem hp
        walk_at "dl"
        rw [h1]
        have dd := deps_mem hy'
        exact ⟨⟨lays_mem ha hx', lays_mem hb hy', by omega⟩, hP⟩
      · rw [List.nil_append, zip_same, flat_bl]
        simp only
        rw [sames_zip (by simpa using c)]
        exact h
    · rw [c]
      rw [sames_len (by simpa using c)] at h
      exact h
end K2
set_option maxHeartbeats 4000000
namespace K2
open PySem PySem.Spec PyProof.Rows L2 DL
/-! ### the two helpers of the draws, walked by hand -/
abbrev bagO (L : Addr) (i c m k : Int) : HO := .lst [.ref L, .int i, .int c, .int m, .int k]
abbrev FnP (K : PySem.W.Frag) (x : Str) (st : Stmt) (f : Addr) (fd : FuncData) : Prop := FunD K x x (defArgs st) (defBody st) (defScope st) [] [] f fd
section
variable {P : Program} {w : World} {K : PySem.W.Frag} {mg : Str → Option Value} {base : Heap} {f : Addr} {cdv : Value} {A : Around} {outer : List Env} {s0 : Shared} {H0 : Hp} {E0 : XK}
abbrev XP (P : Program) (w : World) (K : PySem.W.Frag) (mg : Str → Option Value) (base : Heap) (f : Addr) (cdv : Value) (A : Around) (outer : List Env) (s0 : Shared) (H0 : Hp) (E0 : XK) : Cx := (cxOf CX0 P w K mg base n_l_pull "_law_pull" (defScope s_l_pull) f cdv A outer s0 H0 E0).nox
theorem bset (j : Nat) {L : Addr} {i c m k v : Int} {B : Addr} {H : Hp} {l : List V} (h : [V.ref L, .int i, .int c, .int m, .int k] = l) : upd (upd H B (.lst l)) B (.lst (l.set j (.int v))) = upd H B (.lst (l.set j (.int v))) := upd_upd
/-- what stands behind the cell's part -/
theorem pull_end (hi : mg "int" = none) {H : Hp} {B L : Addr} {i c m k n : Int} {x2 x3 x4 : Option V} {D : Ends} (c0 : 0 ≤ c) (m0 : 0 ≤ m) (n0 : 0 < n) (n1 : n ≤ 1000000000000000000000000000000)
    (hD : ∀ v c' m', 0 ≤ c' → 0 ≤ m' → m' < 2147483353 → 0 ≤ v → v < n → D.rt (.int v) (upd H B (bagO L i c' m' k))) (m1 : m < 2147483353) :
    wpss (XP P w K mg base f cdv A outer s0 H0 E0) ((defBody s_l_pull).drop 2) D [some (.ref B), some (.int n), x2, x3, x4] (upd H B (bagO L i c m k)) := by
  refine of_pss (pss_cons (ps_if (pt_cmp (pc_gt (pe_ix ix_list (pv 0) pe_int fun _ _ => rfl) pe_int))
      (pss_cons (ps_set (i := 4) sc_l_pull.nd rfl (Or.inl rfl) (pe_op op_mod (pe_callTy call_int1 (by rfl) hi (by rfl) (pa_cons (pe_ix ix_list (pv 0) pe_int fun _ _ => rfl) pa_nil)) (pv 1)))
        (pss_cons (ps_asg (pe_op op_fdivW (pe_ix ix_list (pv 0) pe_int fun _ _ => rfl) (pv 1)) (pg_sub (pv 0) pe_int set_list))
          (pss_one (ps_ret (pv 4))))) pss_nil)
    (pss_cons (ps_set (i := 2) sc_l_pull.nd rfl (Or.inl rfl) (pe_ix ix_list (pv 0) pe_int fun _ _ => rfl))
    (pss_cons (ps_asg (pe_op op_mod (pe_callTy call_int1 (by rfl) hi (by rfl) (pa_cons (pe_op op_add (pe_op op_add (pe_op op_add (pe_op op_pow (pv 2) pe_int) (pe_op op_mul (pv 2) pe_int)) (pe_op op_mul (pe_ix ix_list (pv 0) pe_int fun _ _ => rfl) pe_int)) pe_int) pa_nil)) pe_int) (pg_sub (pv 0) pe_int set_list))
    (pss_one (ps_ret (pe_op op_mod (pe_callTy call_int1 (by rfl) hi (by rfl) (pa_cons (pe_op op_add (pe_op op_fdiv (pe_ix ix_list (pv 0) pe_int fun _ _ => rfl) pe_int) (pe_op op_mul (pe_op op_mod (pe_callTy call_int1 (by rfl) hi (by rfl) (pa_cons (pe_ix ix_list (pv 0) pe_int fun _ _ => rfl) pa_nil)) pe_int) pe_int)) pa_nil)) (pv 1))))))) ?_
  refine ⟨_, rfl, _, _, _, _, rfl, rfl, SqL.of upd_same, rfl, c, 0, rfl, rfl, _, rfl, ?_⟩
  by_cases hc : (0 : Int) < c
  · show ite (decide (0 < c) = true) _ _
    rw [if_pos (decide_eq_true hc)]
    refine ⟨_, rfl, _, _, _, _, rfl, rfl, SqL.of upd_same, rfl, .inl ⟨c, rfl, _, rfl, c, n, rfl, rfl, n0, ?_⟩⟩
    refine ⟨_, rfl, _, _, _, _, rfl, rfl, SqL.of upd_same, rfl, _, rfl, c, n, rfl, rfl, wide_div (b := 100) n0 (by omega) (by decide) (by decide), ?_⟩
    refine ⟨_, rfl, _, _, _, _, rfl, rfl, upd_same, rfl, ?_⟩
    refine ⟨_, rfl, ?_⟩
    rw [upd_upd]
    exact hD _ _ _ (Int.ediv_nonneg c0 (by omega)) m0 m1 (Int.emod_nonneg _ (by omega)) (Int.emod_lt_of_pos _ n0)
  · show ite (decide (0 < c) = true) _ _
    rw [if_neg (by simpa using hc)]
    refine ⟨_, rfl, _, _, _, _, rfl, rfl, SqL.of upd_same, rfl, ?_⟩
    refine ⟨_, rfl, m, 3, rfl, rfl, ⟨by decide, by decide, by omega⟩, ?_⟩
    refine ⟨_, rfl, m, 36007, rfl, rfl, .inr ⟨by decide, by decide⟩, _, _, rfl, rfl, ?_⟩
    refine ⟨_, rfl, _, _, _, _, rfl, rfl, SqL.of upd_same, rfl, k, 1299721, rfl, rfl, .inr ⟨by decide, by decide⟩, _, _, rfl, rfl, _, _, rfl, rfl, ?_⟩
    refine .inl ⟨_, rfl, _, 2147483353, rfl, rfl, (by decide : (0 : Int) < 2147483353), ?_⟩
    refine ⟨_, rfl, _, _, _, _, rfl, rfl, upd_same, rfl, ?_⟩
    rw [upd_upd]
    refine ⟨_, rfl, _, _, _, _, rfl, rfl, SqL.of upd_same, rfl, _, 89, rfl, rfl, ⟨by decide, by decide⟩, ?_⟩
    refine ⟨_, rfl, _, _, _, _, rfl, rfl, SqL.of upd_same, rfl, .inl ⟨_, rfl, _, 7907, rfl, rfl, (by decide : (0 : Int) < 7907), _, 61, rfl, rfl, .inr ⟨by decide, by decide⟩, _, _, rfl, rfl, ?_⟩⟩
    refine .inl ⟨_, rfl, _, rfl, _, n, rfl, rfl, n0, ?_⟩
    exact hD _ _ _ c0 (Int.emod_nonneg _ (by decide)) (Int.emod_lt_of_pos _ (by decide)) (Int.emod_nonneg _ (by omega)) (Int.emod_lt_of_pos _ n0)
/-- the way into it: the count, the cell -/
theorem pull_ok (hi : mg "int" = none) (hl : mg "len" = none) {H R : Hp} {B L : Addr} {ns : List Int} {i c m k n : Int} {D : Ends} (hB : H B = some (bagO L i c m k)) (hL : H L = some (.lst (ns.map V.int))) (i0 : 0 ≤ i) (c0 : 0 ≤ c) (m0 : 0 ≤ m) (m1 : m < 2147483353) (n0 : 0 < n) (n1 : n ≤ 1000000000000000000000000000000)
    (hD : ∀ v i' c' m' k', 0 ≤ i' → 0 ≤ c' → 0 ≤ m' → m' < 2147483353 → 0 ≤ v → v < n → D.rt (.int v) (upd H B (bagO L i' c' m' k'))) :
    wpss (XP P w K mg base f cdv A outer s0 H0 E0) (defBody s_l_pull) D [some (.ref B), some (.int n), none, none, none] H := by
  have hLB : L ≠ B := by
    intro e; rw [e, hB] at hL
    cases ns with
    | nil => cases hL
    | cons a as => injection hL with q; injection q with q; injection q with q; cases q
  refine of_pss (pss_cons (ps_asg (pe_op op_add (pe_ix ix_list (pv 0) pe_int fun _ _ => rfl) pe_int) (pg_sub (pv 0) pe_int set_list))
    (pss_cons (ps_if (PW.pt (pw_and (pt_cmp (pc_eqI (pe_ix ix_list (pv 0) pe_int fun _ _ => rfl) pe_int)) (pw_and1 (pt_cmp (pc_lt (pe_ix ix_list (pv 0) pe_int fun _ _ => rfl) (pe_callB call_len (by rfl) hl boot_len (pa_cons (pe_ix ix_list (pv 0) pe_int fun _ _ => rfl) pa_nil)))))))
      (pss_cons (ps_set (i := 3) sc_l_pull.nd rfl (Or.inl rfl) (pe_ix ix_list (pe_ix ix_list (pv 0) pe_int fun _ _ => rfl) (pe_ix ix_list (pv 0) pe_int fun _ _ => rfl) fun _ _ => rfl))
        (pss_cons (ps_asg (pe_op op_add (pe_ix ix_list (pv 0) pe_int fun _ _ => rfl) pe_int) (pg_sub (pv 0) pe_int set_list))
          (pss_cons (ps_if (pt_cmp (pc_ge (pv 3) (pe_op op_pow pe_int pe_int))) (pss_one (ps_asg (pv 3) (pg_sub (pv 0) pe_int set_list))) pss_nil)
            (pss_one (ps_asg (pe_op op_mod (pe_callTy call_int1 (by rfl) hi (by rfl) (pa_cons (pe_op op_add (pe_op op_add (pe_op op_mul (pe_ix ix_list (pv 0) pe_int fun _ _ => rfl) pe_int) (pe_op op_mul (pe_op op_mod (pe_callTy call_int1 (by rfl) hi (by rfl) (pa_cons (pv 3) pa_nil)) pe_int) pe_int)) pe_int) pa_nil)) pe_int) (pg_sub (pv 0) pe_int set_list)))))) pss_nil)
    (pss_wpt ((defBody s_l_pull).drop 2)))) ?_
  refine ⟨_, rfl, _, _, _, _, rfl, rfl, SqL.of hB, rfl, k, 1, rfl, rfl, _, rfl, _, _, _, _, rfl, rfl, hB, rfl, ?_⟩
  refine ⟨_, rfl, _, _, _, _, rfl, rfl, SqL.of upd_same, rfl, c, 0, rfl, rfl, _, rfl, ?_⟩
  show ite (decide (c = 0) = true) _ _
  have E : ∀ (i' c' m' : Int) (x3 : Option V), 0 ≤ i' → 0 ≤ c' → 0 ≤ m' → m' < 2147483353 → wpss (XP P w K mg base f cdv A outer s0 H0 E0) ((defBody s_l_pull).drop 2) D [some (.ref B), some (.int n), none, x3, none] (upd H B (bagO L i' c' m' (k + 1))) :=
    fun i' c' m' x3 h1 h2 h3 h4 => pull_end hi h2 h3 n0 n1 (fun v c2 m2 g1 g2 g3 g4 g5 => hD v i' c2 m2 (k + 1) h1 g1 g2 g3 g4 g5) h4
  by_cases hc : c = 0
  · rw [if_pos (decide_eq_true hc)]
    have hL1 : ∀ o, upd H B o L = some (.lst (ns.map V.int)) := fun o => by rw [upd_ne hLB]; exact hL
    refine ⟨_, rfl, _, _, _, _, rfl, rfl, SqL.of upd_same, rfl, _, rfl, _, _, _, _, rfl, rfl, SqL.of upd_same, rfl, _, _, rfl, .inl ⟨_, SqL.of (hL1 _), rfl⟩, i, _, rfl, rfl, _, rfl, ?_⟩
    show ite (decide (i < ((ns.map V.int).length : Int)) = true) _ _
    by_cases hin : i < ((ns.map V.int).length : Int)
    · rw [if_pos (decide_eq_true hin)]
      obtain ⟨u, hu⟩ : ∃ u : Int, atI (ns.map V.int) i = some (.int u) := by
        unfold atI ixN
        rw [if_pos i0, if_pos hin]
        rw [List.length_map] at hin
        have q : i.toNat < ns.length := by omega
        exact ⟨ns[i.toNat], by simp [q]⟩
      refine ⟨_, rfl, _, _, _, _, rfl, rfl, SqL.of upd_same, rfl, _, rfl, _, _, _, _, rfl, rfl, SqL.of upd_same, rfl, L, _, i, .int u, rfl, rfl, SqL.of (hL1 _), hu, ?_⟩
      refine ⟨_, rfl, _, _, _, _, rfl, rfl, SqL.of upd_same, rfl, i, 1, rfl, rfl, _, rfl, _, _, _, _, rfl, rfl, upd_same, rfl, ?_⟩
      rw [upd_upd]
      refine ⟨_, rfl, 10, 18, rfl, rfl, ⟨by decide, by decide, by decide⟩, u, _, rfl, rfl, _, rfl, ?_⟩
      show ite (decide ((10 : Int) ^ (18 : Int).toNat ≤ u) = true) _ _
      have e18 : (10 : Int) ^ (18 : Int).toNat = 1000000000000000000 := by decide
      rw [e18]
      by_cases hu2 : (1000000000000000000 : Int) ≤ u
      · rw [if_pos (decide_eq_true hu2)]
        refine ⟨_, rfl, _, rfl, _, _, _, _, rfl, rfl, upd_same, rfl, ?_⟩
        rw [upd_upd]
        refine ⟨_, rfl, _, _, _, _, rfl, rfl, SqL.of upd_same, rfl, m, 40093, rfl, rfl, .inr ⟨by decide, by decide⟩, _, rfl, .inl ⟨u, rfl, u, 2147483249, rfl, rfl, (by decide : (0 : Int) < 2147483249), _, 52153, rfl, rfl, .inr ⟨by decide, by decide⟩, _, _, rfl, rfl, _, _, rfl, rfl, ?_⟩⟩
        refine .inl ⟨_, rfl, _, 2147483353, rfl, rfl, (by decide : (0 : Int) < 2147483353), ?_⟩
        refine ⟨_, rfl, _, _, _, _, rfl, rfl, upd_same, rfl, ?_⟩
        rw [upd_upd]
        exact E _ _ _ _ (by omega) (by omega) (Int.emod_nonneg _ (by decide)) (Int.emod_lt_of_pos _ (by decide))
      · rw [if_neg (by simpa using hu2)]
        refine ⟨_, rfl, _, _, _, _, rfl, rfl, SqL.of upd_same, rfl, m, 40093, rfl, rfl, .inr ⟨by decide, by decide⟩, _, rfl, .inl ⟨u, rfl, u, 2147483249, rfl, rfl, (by decide : (0 : Int) < 2147483249), _, 52153, rfl, rfl, .inr ⟨by decide, by decide⟩, _, _, rfl, rfl, _, _, rfl, rfl, ?_⟩⟩
        refine .inl ⟨_, rfl, _, 2147483353, rfl, rfl, (by decide : (0 : Int) < 2147483353), ?_⟩
        refine ⟨_, rfl, _, _, _, _, rfl, rfl, upd_same, rfl, ?_⟩
        rw [upd_upd]
        exact E _ _ _ _ (by omega) c0 (Int.emod_nonneg _ (by decide)) (Int.emod_lt_of_pos _ (by decide))
    · rw [if_neg (by simpa using hin)]
      exact E i c m none i0 c0 m0 m1
  · rw [if_neg (by simpa using hc)]
    exact E i c m none i0 c0 m0 m1
end
theorem Nx.bag {B : Addr} {R H : Hp} (s : Same R H) (b : BagOk B R H) {L : Addr} {ns : List Int} {i c m k : Int} (hL : R L = some (.lst (ns.map V.int))) (i0 : 0 ≤ i) (c0 : 0 ≤ c) (m0 : 0 ≤ m) (m1 : m < 2147483353) :
    DL.Nx B R H R (upd H B (bagO L i c m k)) := by
  have rB := b.1
  have nb : ∀ {x : Addr} {o : HO}, R x = some o → x ≠ B := fun {x o} h e => by rw [e, rB] at h; cases h
  exact ⟨fun _ _ h => h, fun x o h => by rw [upd_ne (nb h)]; exact s x o h, fun x o h hx => by rw [upd_ne hx]; exact h, fun _ _ => rfl, fun _ => by rw [upd_same]; exact (fun z => by cases z), rB, L, ns, i, c, m, k, upd_same, hL, i0, c0, m0, m1⟩
theorem ok_pull {P : Program} {w : World} {K : PySem.W.Frag} {mg : Str → Option Value} {base : Heap} {f : Addr} {fd : FuncData} {k : Nat} (F : FnP K "_law_pull" s_l_pull f fd) (hi : mg "int" = none) (hl : mg "len" = none) : FnOk P w K mg base CX0 (k + 1) f fd p_l_pull (spD K sp_pull) := by
  refine F.ok sc_l_pull (fun vs H Q E h => ?_) (fun cdv A outer s H vs Q E hr h => ⟨_, PSs.nox (pss_wpt _), ?_⟩)
  · obtain ⟨B, R, ds, W, s1, b1, r, q, t⟩ := h
    rw [r.length]
    unfold sp_pull at q
    split at q
    · rfl
    · exact q.elim
  · obtain ⟨B, R, ds, W, s1, b1, r, q, t⟩ := h
    unfold sp_pull at q
    split at q
    · rename_i m W
      obtain ⟨⟨n0, n1⟩, q⟩ := q
      cases r with
      | cons r1 r => cases r with
      | cons r2 r =>
        cases r
        cases r1
        cases r2
        obtain ⟨rB, L, ns, i, c, mm, kk, hB, hL, i0, c0, m0, m1⟩ := b1
        refine pull_ok hi hl (R := R) hB (s1 _ _ hL) i0 c0 m0 m1 n0 n1 fun v i' c' m' k' h1 h2 h3 h4 h5 h6 => ?_
        exact t _ _ _ _ (Nx.bag s1 ⟨rB, L, ns, i, c, mm, kk, hB, hL, i0, c0, m0, m1⟩ hL h1 h2 h3 h4) (.int v) (q v h5 h6)
    · exact q.elim
def spDr (K : PySem.W.Frag) : Sp := fun vs H Q _ => ∃ (a : Addr) (ns : List Int), vs = [.ref a] ∧ SqL K H a (ns.map V.int) ∧
  ∀ (B L : Addr) (ms : List Int) (H' : Hp), H' B = some (bagO L 0 0 12020 0) → H' L = some (.lst (ms.map V.int)) → Q (.ref B) H'
theorem ok_draws {P : Program} {w : World} {K : PySem.W.Frag} {mg : Str → Option Value} {base : Heap} {f : Addr} {fd : FuncData} {k : Nat} (F : FnP K "_law_draws" s_l_draws f fd) (hl : mg "list" = none) : FnOk P w K mg base CX0 (k + 1) f fd p_l_draws (spDr K) := by
  refine F.ok sc_l_draws (fun vs H Q E h => ?_) (fun cdv A outer s H vs Q E hr h => ⟨_, PSs.nox (pss_wpt _), ?_⟩)
  · obtain ⟨a, ns, rfl, _⟩ := h; rfl
  · refine of_pss (pss_one (ps_ret (pe_lst (pa_cons (pe_callTy call_list_of (by rfl) hl (by rfl) (pa_cons (pe_slice sl_list (pv 0) po_none (po_some pe_int)) pa_nil)) (pa_cons pe_int (pa_cons pe_int (pa_cons pe_int (pa_cons pe_int pa_nil)))))))) ?_
    obtain ⟨a, ns, rfl, hS, q⟩ := h
    obtain ⟨ms, hms⟩ : ∃ ms : List Int, cutV (ns.map V.int) none (some 63) = ms.map V.int := by
      unfold cutV
      exact ⟨_, by rw [← List.map_drop, ← List.map_take]⟩
    refine ⟨_, rfl, _, rfl, _, _, rfl, hS, fun p0 hp0 => ?_⟩
    rw [hms]
    refine ⟨_, _, rfl, .inl (SqL.of upd_same), fun l hl => ⟨by rw [sizeLine_eq]; show 5 ≤ 16777216; decide, fun B hB => ?_⟩⟩
    refine q B l ms _ upd_same ?_
    have : l ≠ B := by
      intro e; subst e; rw [upd_same] at hB; cases hB
    rw [upd_ne this, upd_same]
end K2
set_option maxHeartbeats 4000000
namespace K2
open PySem PySem.Spec PyProof.Rows L2 DL
def ΓL : Sg := ((((((((Sg0.add "_law_pull" r_pull).add "_law_any" r_any).add "is_number" r_is_number).add "is_vector" r_is_vector).add "is_zero" r_is_zero).add "is_part" r_is_part).add "_law_is_part" r_l_is_part).add "_law_like" (r_like 2))
theorem g_pull : ΓL.fn "_law_pull" = some r_pull := (Sg.add_ne (x := "_law_like") (y := "_law_pull") (by decide +kernel)).trans ((Sg.add_ne (x := "_law_is_part") (y := "_law_pull") (by decide +kernel)).trans ((Sg.add_ne (x := "is_part") (y := "_law_pull") (by decide +kernel)).trans ((Sg.add_ne (x := "is_zero") (y := "_law_pull") (by decide +kernel)).trans ((Sg.add_ne (x := "is_vector") (y := "_law_pull") (by decide +kernel)).trans ((Sg.add_ne (x := "is_number") (y := "_law_pull") (by decide +kernel)).trans ((Sg.add_ne (x := "_law_any") (y := "_law_pull") (by decide +kernel)).trans (Sg.add_same _ _ _)))))))
theorem g_any : ΓL.fn "_law_any" = some r_any := (Sg.add_ne (x := "_law_like") (y := "_law_any") (by decide +kernel)).trans ((Sg.add_ne (x := "_law_is_part") (y := "_law_any") (by decide +kernel)).trans ((Sg.add_ne (x := "is_part") (y := "_law_any") (by decide +kernel)).trans ((Sg.add_ne (x := "is_zero") (y := "_law_any") (by decide +kernel)).trans ((Sg.add_ne (x := "is_vector") (y := "_law_any") (by decide +kernel)).trans ((Sg.add_ne (x := "is_number") (y := "_law_any") (by decide +kernel)).trans (Sg.add_same _ _ _))))))
theorem g_num : ΓL.fn "is_number" = some r_is_number := (Sg.add_ne (x := "_law_like") (y := "is_number") (by decide +kernel)).trans ((Sg.add_ne (x := "_law_is_part") (y := "is_number") (by decide +kernel)).trans ((Sg.add_ne (x := "is_part") (y := "is_number") (by decide +kernel)).trans ((Sg.add_ne (x := "is_zero") (y := "is_number") (by decide +kernel)).trans ((Sg.add_ne (x := "is_vector") (y := "is_number") (by decide +kernel)).trans (Sg.add_same _ _ _)))))
theorem g_vec : ΓL.fn "is_vector" = some r_is_vector := (Sg.add_ne (x := "_law_like") (y := "is_vector") (by decide +kernel)).trans ((Sg.add_ne (x := "_law_is_part") (y := "is_vector") (by decide +kernel)).trans ((Sg.add_ne (x := "is_part") (y := "is_vector") (by decide +kernel)).trans ((Sg.add_ne (x := "is_zero") (y := "is_vector") (by decide +kernel)).trans (Sg.add_same _ _ _))))
theorem g_zer : ΓL.fn "is_zero" = some r_is_zero := (Sg.add_ne (x := "_law_like") (y := "is_zero") (by decide +kernel)).trans ((Sg.add_ne (x := "_law_is_part") (y := "is_zero") (by decide +kernel)).trans ((Sg.add_ne (x := "is_part") (y := "is_zero") (by decide +kernel)).trans (Sg.add_same _ _ _)))
theorem g_prt : ΓL.fn "is_part" = some r_is_part := (Sg.add_ne (x := "_law_like") (y := "is_part") (by decide +kernel)).trans ((Sg.add_ne (x := "_law_is_part") (y := "is_part") (by decide +kernel)).trans (Sg.add_same _ _ _))
theorem g_lprt : ΓL.fn "_law_is_part" = some r_l_is_part := (Sg.add_ne (x := "_law_like") (y := "_law_is_part") (by decide +kernel)).trans (Sg.add_same _ _ _)
theorem g_like : ΓL.fn "_law_like" = some (r_like 2) := Sg.add_same _ _ _
local macro_rules | `(tactic| walk_at "dl") => `(tactic| simp only [wF, wSs, wS, wE, wEs, wO, wC, wI, start0, bindT, setAll, wipeD, truD, cmpD, binD, bD, subD, slD, isiD, lenOb, iteP_true, iteP_false, List.map_cons, List.map_nil, List.length_cons, List.length_nil, List.cons_append, List.nil_append, List.getElem?_cons_zero, List.getElem?_cons_succ, List.set_cons_zero, List.set_cons_succ, List.replicate_succ, List.replicate_zero, CEs.len, reduceCtorEq, ne_eq, not_false_eq_true, true_and, Bool.not_true, Bool.not_false, Nat.reduceAdd, Nat.reduceSub, beq_self_eq_true, beqT, beqF, g_pull, g_any, g_num, g_vec, g_zer, g_prt, g_lprt, g_like, r_pull, r_any, r_is_number, r_is_vector, r_is_zero, r_is_part, r_l_is_part, r_like, sp_pull, sp_any, sp_is_number, sp_is_vector, sp_is_zero, sp_is_part, sp_like])
section
variable {Γ : Sg} {ss : CSs} {k : Kt} {ρ : List Sl}
theorem step_set {i : Nat} {e : CE} (P : D → Prop) (h : ∀ W : D → Prop, (∀ d, P d → W d) → wE Γ e ρ W) (g : ∀ d, P d → wSs Γ ss k (ρ.set i (.dat d))) : wSs Γ (.cons (.set i e) ss) k ρ := by
  show wSs Γ _ _ _
  unfold wSs wS
  exact h _ g
theorem step_ite {t : CE} {a b : CSs} (P : Bool → Prop) (h : ∀ W : D → Prop, (∀ c, P c → W (.bl c)) → wE Γ t ρ W) (ga : P true → wSs Γ a { k with nx := fun ρ' => wSs Γ ss k ρ' } ρ) (gb : P false → wSs Γ b { k with nx := fun ρ' => wSs Γ ss k ρ' } ρ) : wSs Γ (.cons (.ite t a b) ss) k ρ := by
  show wSs Γ _ _ _
  unfold wSs wS
  refine h _ fun c hc => ?_
  show iteP c _ _
  exact iteP_of (fun e => ga (e ▸ hc)) (fun e => gb (e ▸ hc))
theorem step_setT {is : List Nat} {e : CE} (P : List D → Prop) (h : ∀ W : D → Prop, (∀ ds, P ds → W (.tup ds)) → wE Γ e ρ W) (g : ∀ ds, P ds → is.length = ds.length ∧ wSs Γ ss k (setAll ρ is ds)) : wSs Γ (.cons (.setT is e) ss) k ρ := by
  show wSs Γ _ _ _
  unfold wSs wS
  exact h _ g
end
/-- the loop's body -/
def b_body : CSs := match b_law with
  | .cons (.for_ _ _ b) _ => b
  | _ => .nil
def b_rest : CSs := match b_law with
  | .cons _ b => b
  | _ => .nil
theorem b_law_eq : b_law = .cons (.for_ (.one 2) (.rng1 (.int 6)) b_body) b_rest := rfl
def InvL (ρ : List Sl) : Prop := ∃ a0 a2 a3 a4 a5 a6 a7 a8 a9 a10 a11 a12 a13 a14 a15 : Sl, ρ = [a0, .dat .bag, a2, a3, a4, a5, a6, a7, a8, a9, a10, a11, a12, a13, a14, a15]
theorem step_no {Γ : Sg} {ss a : CSs} {k : Kt} {ρ : List Sl} {t : CE} (h : ∀ W : D → Prop, W (.bl false) → wE Γ t ρ W) (g : wSs Γ ss k ρ) : wSs Γ (.cons (.ite t a .nil) ss) k ρ :=
  step_ite (fun c => c = false) (fun W hW => h W (hW _ rfl)) (fun h => by cases (show true = false from h)) (fun _ => by unfold wSs; exact g)
theorem e17 : (10 : Int) ^ Int.toNat 17 = 100000000000000000 := by decide
theorem e16 : (10 : Int) ^ Int.toNat 16 = 10000000000000000 := by decide
theorem e9 : (10 : Int) ^ Int.toNat 9 = 1000000000 := by decide
theorem nb_ints (ns : List Int) : ∀ x ∈ ns.map D.int, x ≠ .bag := by
  intro x hx
  obtain ⟨i, _, rfl⟩ := List.mem_map.mp hx
  intro e; cases e
theorem all_ints (ns : List Int) : (ns.map D.int).all isI = true := by
  induction ns with
  | nil => rfl
  | cons n ns ih => simp only [List.map_cons, List.all_cons, isI, ih, Bool.and_self]
theorem prt_self (a : Int) : prt a a = true := by
  unfold prt
  by_cases h : 0 ≤ a
  · simp [h]
  · have : a ≤ 0 := by omega
    simp [this]
theorem part_self (ns : List Int) : isPart ns ns = true := by
  unfold isPart
  rw [decide_eq_true rfl, Bool.true_and]
  induction ns with
  | nil => rfl
  | cons n ns ih => simp only [List.zipWith_cons_cons, List.all_cons, prt_self, ih, id, Bool.and_self]
theorem part_long (ns : List Int) : isPart (ns ++ [0]) ns = false := by
  unfold isPart
  rw [decide_eq_false (by simp), Bool.false_and]
theorem vec_yes {ns : List Int} {n : Int} (h : (ns.length : Int) = n) : isVec (.tup (ns.map D.int)) n = true := by
  simp only [isVec, List.length_map, all_ints, h, decide_true, Bool.and_self]
theorem vec_no {ns : List Int} {n : Int} (h : (ns.length : Int) = n) : isVec (.tup (ns.map D.int)) (n + 1) = false := by
  simp only [isVec, List.length_map]
  rw [decide_eq_false (by omega), Bool.false_and]
theorem perm2 (x y : D) : permD [.inl 0, .inl 1] [] [x, y] = [x, y] := rfl
theorem perm3 (x y z : D) : permD [.inl 2, .inl 1, .inl 0] [] [x, y, z] = [z, y, x] := rfl
theorem cut_len (xs : List D) (lo hi : Option Int) : (DL.cutD xs lo hi).length ≤ xs.length := by
  unfold DL.cutD
  rw [List.length_take, List.length_drop]
  omega
theorem cut_mem {xs : List D} {lo hi : Option Int} {x : D} (h : x ∈ DL.cutD xs lo hi) : x ∈ xs := by
  unfold DL.cutD at h
  exact List.mem_of_mem_drop (List.mem_of_mem_take h)
theorem w_body {k : Kt} {a0 a2 a3 a4 a5 a6 a7 a8 a9 a10 a11 a12 a13 a14 a15 : Sl} (hk : ∀ ρ, InvL ρ → k.nx ρ) : wSs ΓL b_body k [a0, .dat .bag, a2, a3, a4, a5, a6, a7, a8, a9, a10, a11, a12, a13, a14, a15] := by
  unfold b_body b_law
  refine step_setT (fun ds => ∃ lo wd : Int, ds = [.int lo, .int wd] ∧ 0 ≤ wd ∧ wd ≤ 1000000000) (fun W hW => ?_) ?_
  · walk_at "dl"
    rw [e17, e16, e9]
    refine ⟨⟨by decide, by decide, by decide⟩, ⟨by decide, by decide⟩, fun i h1 h2 => ⟨⟨by decide, by decide, by decide⟩, ⟨by decide, by decide, by decide⟩, ⟨by decide, by decide⟩, fun j h3 h4 => ⟨by rw [sizeLine_eq]; decide, fun d hd => ?_⟩⟩⟩
    simp only [List.mem_cons, List.not_mem_nil, or_false] at hd
    rcases hd with rfl | rfl | rfl | rfl <;> exact hW _ ⟨_, _, rfl, by omega, by omega⟩
  rintro _ ⟨lo, wd, rfl, w0, w1⟩
  refine ⟨rfl, ?_⟩
  simp only [setAll, List.set_cons_succ, List.set_cons_zero]
  refine step_set (fun d => ∃ q : Int, d = .lst [.int (lo - 1), .int lo, .int (lo + wd), .int (lo + wd + 1), .int (lo + q)] ∧ 0 ≤ q ∧ q ≤ wd) (fun W hW => ?_) ?_
  · walk_at "dl"
    exact ⟨⟨by omega, by omega⟩, fun i h1 h2 => hW _ ⟨i, rfl, h1, by omega⟩⟩
  rintro _ ⟨q, rfl, q0, q1⟩
  simp only [List.set_cons_succ, List.set_cons_zero]
  refine step_no (fun W hW => ?_) ?_
  · walk_at "dl"
    refine lcD_map (fun d => .bl (isNum d lo (lo + wd))) (fun x hx P E hP => ?_) ?_
    · walk_at "dl"
      exact ⟨by rintro rfl; simp at hx, hP⟩
    · have i1 : isNum (.int (lo - 1)) lo (lo + wd) = false := by simp only [isNum]; rw [decide_eq_false (by omega), Bool.false_and]
      have i2 : isNum (.int lo) lo (lo + wd) = true := by simp only [isNum]; rw [decide_eq_true (by omega), decide_eq_true (by omega)]; rfl
      have i3 : isNum (.int (lo + wd)) lo (lo + wd) = true := by simp only [isNum]; rw [decide_eq_true (by omega), decide_eq_true (by omega)]; rfl
      have i4 : isNum (.int (lo + wd + 1)) lo (lo + wd) = false := by simp only [isNum]; rw [decide_eq_false (p := lo + wd + 1 ≤ lo + wd) (by omega), Bool.and_false]
      have i5 : isNum (.int (lo + q)) lo (lo + wd) = true := by simp only [isNum]; rw [decide_eq_true (by omega), decide_eq_true (by omega)]; rfl
      simp only [List.map_cons, List.map_nil, List.nil_append, i1, i2, i3, i4, i5]
      exact ⟨⟨rfl, rfl, by decide⟩, hW⟩
  refine step_set (fun d => ∃ n : Int, d = .int n ∧ 0 ≤ n ∧ n < 6) (fun W hW => ?_) ?_
  · walk_at "dl"
    exact ⟨⟨by decide, by decide⟩, fun i h1 h2 => hW _ ⟨i, rfl, h1, h2⟩⟩
  rintro _ ⟨n, rfl, n0, n6⟩
  simp only [List.set_cons_succ, List.set_cons_zero]
  refine step_set (fun d => ∃ ns : List Int, d = .tup (ns.map .int) ∧ (ns.length : Int) = n) (fun W hW => ?_) ?_
  · walk_at "dl"
    refine ⟨⟨by omega, by omega⟩, by rw [rng_len, sizeLine_eq]; omega, ?_⟩
    refine lcD_any (fun y => ∃ i : Int, y = .int i) (fun x hx P E hP => ?_) (fun ys hl hp => ?_)
    · walk_at "dl"
      rw [e17]
      refine ⟨⟨by decide, by decide⟩, fun i h1 h2 => ⟨⟨by decide, by decide, by decide⟩, ⟨by decide, by decide⟩, fun j h3 h4 => ⟨by rw [sizeLine_eq]; decide, fun d hd => ?_⟩⟩⟩
      simp only [List.mem_cons, List.not_mem_nil, or_false] at hd
      rcases hd with rfl | rfl | rfl | rfl | rfl <;> exact hP _ ⟨_, rfl⟩
    · rw [List.nil_append]
      obtain ⟨ns, rfl⟩ := ints_ex hp
      rw [List.length_map, rng_len] at hl
      exact hW _ ⟨ns, rfl, by omega⟩
  rintro _ ⟨ns, rfl, hn⟩
  simp only [List.set_cons_succ, List.set_cons_zero]
  refine step_set (fun d => d = .lst [.bl true, .bl false, .bl false, .bl (!ns.any (· != 0))]) (fun W hW => ?_) ?_
  · walk_at "dl"
    simp only [perm2]
    refine ⟨nb_ints ns, nb_ints ns, trivial, ns, rfl, ?_⟩
    rw [vec_yes hn, vec_no hn]
    exact hW _ rfl
  rintro _ rfl
  simp only [List.set_cons_succ, List.set_cons_zero]
  refine step_no (fun W hW => ?_) ?_
  · walk_at "dl"
    rw [flat_int]
    simp only [any_map]
    refine ⟨⟨rfl, rfl, by show 1 < 2; decide⟩, ?_⟩
    rw [same_refl rfl]
    exact hW
  refine step_set (fun d => ∃ ms : List Int, d = .tup (ms.map .int) ∧ ms.length = ns.length) (fun W hW => ?_) ?_
  · walk_at "dl"
    refine lcD_any (fun y => ∃ i : Int, y = .int i) (fun x hx P E hP => ?_) (fun ys hl hp => ?_)
    · obtain ⟨i, _, rfl⟩ := List.mem_map.mp hx
      walk_at "dl"
      refine ⟨⟨by decide, by decide⟩, by rw [sizeLine_eq]; decide, fun d hd => ?_⟩
      simp only [List.mem_cons, List.not_mem_nil, or_false] at hd
      rcases hd with rfl | rfl | rfl | rfl | rfl | rfl <;> exact hP _ ⟨_, rfl⟩
    · rw [List.nil_append]
      obtain ⟨ms, rfl⟩ := ints_ex hp
      rw [List.length_map, List.length_map] at hl
      exact hW _ ⟨ms, rfl, hl⟩
  rintro _ ⟨ms, rfl, hm⟩
  simp only [List.set_cons_succ, List.set_cons_zero]
  refine step_set (fun d => d = .lst [.bl (isPart ms ns), .bl (isPart ns ms), .bl true, .bl false]) (fun W hW => ?_) ?_
  · walk_at "dl"
    simp only [perm2]
    refine ⟨ms, ns, rfl, rfl, ns, ms, rfl, rfl, ns, ns, rfl, rfl, by rw [List.length_map, sizeLine_eq]; omega, ns ++ [0], ns, by simp, rfl, ?_⟩
    rw [part_self, part_long]
    exact hW _ rfl
  rintro _ rfl
  simp only [List.set_cons_succ, List.set_cons_zero]
  refine step_no (fun W hW => ?_) ?_
  · walk_at "dl"
    refine ⟨ms, ns, rfl, rfl, ns, ms, rfl, rfl, ⟨rfl, rfl, by show 1 < 2; decide⟩, ?_⟩
    rw [same_refl rfl]
    exact hW
  refine step_ite (fun c => c = decide (0 < n)) (fun W hW => ?_) (fun hc => ?_) (fun _ => ?_)
  · walk_at "dl"
    exact hW _ rfl
  · have np : 0 < n := of_decide_eq_true (show true = _ from hc).symm
    refine step_set (fun d => ∃ a : Int, d = .int a ∧ 0 ≤ a ∧ a < n) (fun W hW => ?_) ?_
    · walk_at "dl"
      exact ⟨⟨np, by omega⟩, fun i h1 h2 => hW _ ⟨i, rfl, h1, h2⟩⟩
    rintro _ ⟨a, rfl, a0', a1'⟩
    simp only [List.set_cons_succ, List.set_cons_zero]
    refine step_set (fun d => ∃ xs : List D, d = .tup xs ∧ (∀ x ∈ xs, x ≠ .bag) ∧ xs.all isI = false) (fun W hW => ?_) ?_
    · walk_at "dl"
      refine ⟨by rw [sizeLine_eq]; decide, fun d hd => ?_⟩
      have l1 := cut_len (ns.map D.int) none (some a)
      have l2 := cut_len (ns.map D.int) (some (a + 1)) none
      rw [List.length_map] at l1 l2
      have d1 : d ≠ .bag ∧ isI d = false := by
        simp only [List.mem_cons, List.not_mem_nil, or_false] at hd
        rcases hd with rfl | rfl | rfl | rfl | rfl <;> exact ⟨(fun e => by cases e), rfl⟩
      refine ⟨by rw [sizeLine_eq]; omega, by rw [List.length_append, sizeLine_eq]; simp only [List.length_cons, List.length_nil]; omega, hW _ ⟨_, rfl, fun x hx => ?_, ?_⟩⟩
      · rcases List.mem_append.mp hx with hx | hx
        · rcases List.mem_append.mp hx with hx | hx
          · exact nb_ints ns x (cut_mem hx)
          · rw [List.mem_singleton.mp hx]; exact d1.1
        · exact nb_ints ns x (cut_mem hx)
      · simp only [List.all_append, List.all_cons, List.all_nil, d1.2, Bool.false_and, Bool.and_false]
    rintro _ ⟨xs, rfl, nb, na⟩
    simp only [List.set_cons_succ, List.set_cons_zero]
    refine step_no (fun W hW => ?_) ?_
    · walk_at "dl"
      refine ⟨nb, ?_⟩
      simp only [isVec, na, Bool.and_false]
      exact hW
    unfold wSs
    show wSs ΓL _ _ _
    unfold wSs
    exact hk _ ⟨_, _, _, _, _, _, _, _, _, _, _, _, _, _, _, rfl⟩
  · unfold wSs
    show wSs ΓL _ _ _
    unfold wSs
    exact hk _ ⟨_, _, _, _, _, _, _, _, _, _, _, _, _, _, _, rfl⟩
def oddL : List D := [.non, .bl true, .bl false, .str "1", .tup [.int 1], .lst [.int 1], .dct [(.inl 1, .int 1)], .int 3]
theorem step_for {Γ : Sg} {ss body : CSs} {k : Kt} {ρ : List Sl} {tg : Tg} {it : CI} (xs : List D) (h : ∀ W : List D → Prop, W xs → wI Γ it ρ W) (g : forD (bindT tg) (wSs Γ body) { k with nx := fun ρ' => wSs Γ ss k ρ' } xs ρ) : wSs Γ (.cons (.for_ tg it body) ss) k ρ := by
  show wSs Γ _ _ _
  unfold wSs wS
  exact h _ g
theorem w_rest {k : Kt} {a0 a2 a3 a4 a5 a6 a7 a8 a9 a10 a11 a12 a13 a14 a15 : Sl} (hk : k.rt (.bl true)) : wSs ΓL b_rest k [a0, .dat .bag, a2, a3, a4, a5, a6, a7, a8, a9, a10, a11, a12, a13, a14, a15] := by
  unfold b_rest b_law
  refine step_set (fun d => d = .lst oddL) (fun W hW => ?_) ?_
  · walk_at "dl"
    exact hW _ rfl
  rintro _ rfl
  simp only [List.set_cons_succ, List.set_cons_zero]
  have each : ∀ x ∈ oddL, noBag x ∧ x ≠ .bag ∧ EqOk x (.tup [.int 1]) := by
    intro x hx
    simp only [oddL, List.mem_cons, List.not_mem_nil, or_false] at hx
    rcases hx with rfl | rfl | rfl | rfl | rfl | rfl | rfl | rfl
    · exact ⟨trivial, (fun e => by cases e), .inl ⟨rfl, rfl, by decide⟩⟩
    · exact ⟨trivial, (fun e => by cases e), .inl ⟨rfl, rfl, by decide⟩⟩
    · exact ⟨trivial, (fun e => by cases e), .inl ⟨rfl, rfl, by decide⟩⟩
    · exact ⟨trivial, (fun e => by cases e), .inl ⟨by decide +kernel, rfl, by decide⟩⟩
    · exact ⟨(fun y hy => by rw [List.mem_singleton.mp hy]; intro e; cases e), (fun e => by cases e), .inl ⟨rfl, rfl, by decide⟩⟩
    · exact ⟨trivial, (fun e => by cases e), .inl ⟨rfl, rfl, by decide⟩⟩
    · exact ⟨trivial, (fun e => by cases e), .inr rfl⟩
    · exact ⟨trivial, (fun e => by cases e), .inl ⟨rfl, rfl, by decide⟩⟩
  have E1 : oddL.map (fun d => D.bl (isVec d 1)) = [.bl false, .bl false, .bl false, .bl false, .bl true, .bl false, .bl false, .bl false] := rfl
  have E2 : oddL.map (fun d => D.bl (eqD d (.tup [.int 1]))) = [.bl false, .bl false, .bl false, .bl false, .bl true, .bl false, .bl false, .bl false] := rfl
  have E3 : oddL.map (fun d => D.bl (isNum d 0 5)) = [.bl false, .bl false, .bl false, .bl false, .bl false, .bl false, .bl false, .bl true] := rfl
  refine step_no (fun W hW => ?_) ?_
  · walk_at "dl"
    refine lcD_map (fun d => .bl (isVec d 1)) (fun x hx P E hP => ?_) ?_
    · walk_at "dl"
      exact ⟨(each x hx).1, hP⟩
    refine lcD_map (fun d => .bl (eqD d (.tup [.int 1]))) (fun x hx P E hP => ?_) ?_
    · walk_at "dl"
      exact ⟨(each x hx).2.2, hP⟩
    rw [List.nil_append, List.nil_append, E1, E2]
    refine ⟨⟨rfl, rfl, by decide⟩, ?_⟩
    refine iteP_of (fun c => ⟨(fun x hx => by cases hx), hW⟩) (fun c => ?_)
    exact absurd c (by decide)
  refine step_set (fun d => d = .lst [.bl false, .bl false, .bl false, .bl false, .bl false, .bl false, .bl false, .bl true, .bl true, .bl true, .bl true]) (fun W hW => ?_) ?_
  · walk_at "dl"
    simp only [perm3]
    refine lcD_map (fun d => .bl (isNum d 0 5)) (fun x hx P E hP => ?_) ?_
    · walk_at "dl"
      exact ⟨(each x hx).2.1, hP⟩
    rw [List.nil_append, E3]
    exact ⟨(fun e => by cases e), [], rfl, [], [], rfl, rfl, by rw [sizeLine_eq]; decide, hW _ rfl⟩
  rintro _ rfl
  simp only [List.set_cons_succ, List.set_cons_zero]
  walk_at "dl"
  have E4 : (List.replicate (Int.toNat 7) [D.bl false]).flatten ++ [D.bl true, D.bl true, D.bl true, D.bl true] = [.bl false, .bl false, .bl false, .bl false, .bl false, .bl false, .bl false, .bl true, .bl true, .bl true, .bl true] := rfl
  rw [E4]
  refine ⟨by decide, by decide, by rw [sizeLine_eq]; decide, by rw [sizeLine_eq]; decide, ⟨rfl, rfl, by decide⟩, ?_⟩
  rw [same_refl rfl]
  exact hk
theorem w_law {W : D → Prop} (hW : W (.bl true)) : wSs ΓL b_law { nx := fun _ => W .non, rt := W } [.no, .dat .bag, .no, .no, .no, .no, .no, .no, .no, .no, .no, .no, .no, .no, .no, .no] := by
  rw [b_law_eq]
  refine step_for (rngD 0 6) (fun W hW => ?_) ?_
  · simp only [wI, wE]
    exact ⟨⟨by decide, by decide⟩, hW⟩
  refine forD_inv InvL ⟨_, _, _, _, _, _, _, _, _, _, _, _, _, _, _, rfl⟩ (fun x hx ρ hI k' hr hn hc hb => ?_) (fun ρ hI => ?_)
  · obtain ⟨a0, a2, a3, a4, a5, a6, a7, a8, a9, a10, a11, a12, a13, a14, a15, rfl⟩ := hI
    simp only [bindT, List.set_cons_succ, List.set_cons_zero]
    exact w_body hn
  · obtain ⟨a0, a2, a3, a4, a5, a6, a7, a8, a9, a10, a11, a12, a13, a14, a15, rfl⟩ := hI
    exact w_rest hW
end K2
set_option maxHeartbeats 0
namespace K2
open PySem PySem.Spec PyProof.Rows L2
def dd (x : Str) (st : Stmt) : He.DefD := ⟨(x, none), x, x, defArgs st, defBody st, defScope st, [], []⟩
def fn : List He.DefD := [dd "is_number" s_is_number, dd "is_integer" s_is_integer, dd "is_vector" s_is_vector, dd "is_part" s_is_part, dd "is_zero" s_is_zero, dd "_law_draws" s_l_draws, dd "_law_pull" s_l_pull, dd "_law_any" s_l_any, dd "_law_like" s_l_like, dd "_law_is_part" s_l_is_part, dd "law" s_law]
def fa : List He.Fa := [.glo "is_number", .glo "is_integer", .glo "is_vector", .glo "is_part", .glo "is_zero", .glo "_law_draws", .glo "_law_pull", .glo "_law_any", .glo "_law_like", .glo "_law_is_part", .glo "law",
  .free "len", .free "all", .free "any", .free "tuple", .free "list", .free "int", .free "abs", .free "sum", .free "isinstance", .free "range", .free "zip", .free "enumerate", .free "bool", .free "str", .free "dict"]
abbrev R : PySem.W.OpenRow := PySem.W.OpenLaw.row PySem.Challenge.rw_onekink_k02_numbers_and_vectors
abbrev hk : PySem.W.Hook := He.hookD 4 fa fn
def ob (s : PySem.W.SharedT) : He.AlD := He.obsDG 4 fa fn (HandSHeadRun.getT s)
theorem ob_eq (s : PySem.W.SharedT) : ob s = hk.obs s.abs := He.obsDG_eq (HandSHeadRun.getT_eq s)
def loose : List PySem.Str := ["is_number", "is_integer", "is_vector", "is_part", "is_zero", "_law_draws", "_law_pull", "_law_any", "_law_like", "_law_is_part"]
theorem run (w : World) : HandSHeadRun.RunEq R (PySem.W.view R.prog [12]) hk ob 1500 loose w := by
  intro os
  kernel_rfl
end K2
set_option maxHeartbeats 4000000
namespace K2
open PySem PySem.Spec PyProof.Rows L2 DL
section
variable {P : Program} {w : World} {K : PySem.W.Frag} {mg : Str → Option Value} {base : Heap} {k : Nat} {Γ : Sg}
/-- fn_ok for a def as the heads tell it -/
theorem fn_okD {N : List Str} {x qual : Str} {params : Arguments} {bs : List Stmt} {scope : Scope} {f : Addr} {fd : FuncData} {ps : List Str} {body : CSs} {sp : List D → (D → Prop) → Prop} {dvs : List V} {kws : List (Str × V)}
    (F : FunD K x qual params bs scope dvs kws f fd) (S : FnScope N ps scope) (G : SgOk Γ k P w K mg base) (hc : chkSs N scope body bs = true) (hl : ∀ ds W, sp ds W → ds.length = ps.length) (hb : ∀ ds W, sp ds W → wF Γ N.length body ds W) :
    FnOk P w K mg base CX0 (k + 1) f fd ps (spD K sp) := by
  refine F.ok S (fun vs H Q E h => ?_) (fun cdv A outer s H vs Q E hr h => ?_)
  · obtain ⟨B, R, ds, W, _, _, r, q, _⟩ := h
    rw [r.length]; exact hl _ _ q
  · obtain ⟨B, R, ds, W, s1, b1, r, q, t⟩ := h
    refine ⟨_, PSs.nox (pss_wpt _), ?_⟩
    have SX : StX Γ k N scope scope (cxOf CX0 P w K mg base N qual scope f cdv A outer s H E).nox :=
      ⟨rfl, rfl, S.kind, S.nd, rfl, hr, fun x l => ⟨l, .inl rfl⟩, G⟩
    refine sSs (Γ := Γ) (k := k) (N := N) body scope bs hc _ SX PassesOwn.never B R H R H _ (start0 N.length ds) _ _ (start_ok s1 b1 r) (hb _ _ q) ⟨?_, ?_, ?_, ?_⟩
    · exact fun σ ρ R' H' _ o hw => t _ _ _ _ o.ext .non hw
    · exact fun σ ρ R' H' _ o hw => hw.elim
    · exact fun σ ρ R' H' _ o hw => hw.elim
    · exact fun v d R' H' n r hw => t _ _ _ _ n r hw
theorem fe {N : List Str} {x : Str} {st : Stmt} {f : Addr} {fd : FuncData} {ps : List Str} {body : CSs} {sp : List D → (D → Prop) → Prop} {kw : List (Nat × List Str × List (Nat ⊕ D))}
    (F : FnP K x st f fd) (g : mg x = some (.ref f)) (hbd : Binds K fd ps []) (S : FnScope N ps (defScope st)) (G : SgOk Γ k P w K mg base) (hc : chkSs N (defScope st) body (defBody st) = true) (hl : ∀ ds W, sp ds W → ds.length = ps.length) (hb : ∀ ds W, sp ds W → wF Γ N.length body ds W)
    (hk : ∀ (j : Nat) (q : Nat × List Str × List (Nat ⊕ D)), kw[j]? = some q → KB K fd ps q.1 q.2.1 q.2.2) : FnE K mg P w base (k + 1) x ⟨ps, sp, kw⟩ :=
  ⟨f, fd, g, F.kp, hbd, fn_okD F S G hc hl hb, hk⟩
theorem kb_of {x qual : Str} {params : Arguments} {bs : List Stmt} {scope : Scope} {f : Addr} {fd : FuncData} {ps ks : List Str} {n : Nat} {kws : List (Str × V)} (F : FunD K x qual params bs scope [] kws f fd) (g : List Value → List Value → List Value) (gV : List V → List V → List V)
    (h : ∀ (kV doc pm : Value) (an : Option Addr) (cdv ct : Value) (us ws : List Value), us.length = n → ws.length = ks.length → bindArgs (PySem.W.fnOf x qual params bs scope .none kV doc pm an cdv ct) ⟨us, ks.zip ws⟩ = pure (ps.zip (g us ws)))
    (rel : ∀ {vs : List V} {us : List Value} {zs : List V} {ws : List Value}, Vals vs us → Vals zs ws → Vals (gV vs zs) (g us ws)) : KBn K fd ps n ks g gV := by
  obtain ⟨oc, od, dV, kV, doc, pm, an, cdv, ct, osl, rfl, lk, hcd, hD, hK⟩ := F.ex
  rcases hD with ⟨_, rfl⟩ | ⟨e, _⟩
  · exact ⟨fun s us ws _ h1 h2 => .of_eq (h kV doc pm an cdv ct us ws h1 h2), rel⟩
  · exact absurd rfl e
theorem kb_id {x qual : Str} {params : Arguments} {bs : List Stmt} {scope : Scope} {f : Addr} {fd : FuncData} {ps : List Str} {kws : List (Str × V)} {a b : Str} (F : FunD K x qual params bs scope [] kws f fd)
    (h : ∀ (kV doc pm : Value) (an : Option Addr) (cdv ct : Value) (u v : Value), bindArgs (PySem.W.fnOf x qual params bs scope .none kV doc pm an cdv ct) ⟨[], [(a, u), (b, v)]⟩ = pure (ps.zip [u, v])) : KB K fd ps 0 [a, b] [.inl 0, .inl 1] := by
  refine ⟨fun _ ws => ws, fun _ zs => zs, kb_of F _ _ (fun kV doc pm an cdv ct us ws h1 h2 => ?_) (fun _ r => r), fun B R vs zs ds es r1 r2 l1 l2 => ?_⟩
  · match us, h1, ws, h2 with
    | [], _, [u, v], _ => exact h kV doc pm an cdv ct u v
  · match ds, l1, es, l2 with
    | [], _, [u, v], _ => exact r2
theorem kb_rev {x qual : Str} {params : Arguments} {bs : List Stmt} {scope : Scope} {f : Addr} {fd : FuncData} {ps : List Str} {kws : List (Str × V)} {a b c : Str} (F : FunD K x qual params bs scope [] kws f fd)
    (h : ∀ (kV doc pm : Value) (an : Option Addr) (cdv ct : Value) (u v z : Value), bindArgs (PySem.W.fnOf x qual params bs scope .none kV doc pm an cdv ct) ⟨[], [(a, u), (b, v), (c, z)]⟩ = pure (ps.zip [z, v, u])) : KB K fd ps 0 [a, b, c] [.inl 2, .inl 1, .inl 0] := by
  refine ⟨fun _ ws => ws.reverse, fun _ zs => zs.reverse, kb_of F _ _ (fun kV doc pm an cdv ct us ws h1 h2 => ?_) (fun _ r => ?_), fun B R vs zs ds es r1 r2 l1 l2 => ?_⟩
  · match us, h1, ws, h2 with
    | [], _, [u, v, z], _ => exact h kV doc pm an cdv ct u v z
  · clear h
    rename_i zs ws
    induction r with
    | nil => exact .nil
    | cons r rs ih => simp only [List.reverse_cons]; exact ih.append (.cons r .nil)
  · match ds, l1, es, l2 with
    | [], _, [u, v, z], _ => exact r2.reverse
end
end K2
set_option maxHeartbeats 4000000
namespace K2
open PySem PySem.Spec PyProof.Rows L2 DL
def spLaw (K : PySem.W.Frag) : Sp := fun vs H Q _ => ∃ (a : Addr) (ns : List Int), vs = [.ref a] ∧ SqL K H a (ns.map V.int) ∧ ∀ H', Q (.bl true) H'
section
variable {P : Program} {w : World} {K : PySem.W.Frag} {mg : Str → Option Value} {base : Heap} {k : Nat}
theorem no_kw {fd : FuncData} {ps : List Str} : ∀ (j : Nat) (q : Nat × List Str × List (Nat ⊕ D)), ([] : List (Nat × List Str × List (Nat ⊕ D)))[j]? = some q → KB K fd ps q.1 q.2.1 q.2.2 := by
  intro j q h
  cases h
theorem one_kw {fd : FuncData} {ps : List Str} {p : Nat × List Str × List (Nat ⊕ D)} (hp : KB K fd ps p.1 p.2.1 p.2.2) : ∀ (j : Nat) (q : Nat × List Str × List (Nat ⊕ D)), [p][j]? = some q → KB K fd ps q.1 q.2.1 q.2.2 := by
  intro j q h
  cases j with
  | zero => cases h; exact hp
  | succ j => cases h
/-- the law's own def -/
theorem ok_law {f fD : Addr} {fd fdD : FuncData} (F : FnP K "law" s_law f fd) (FD : FnP K "_law_draws" s_l_draws fD fdD) (gD : mg "_law_draws" = some (.ref fD)) (hl : mg "list" = none) (G : SgOk ΓL k P w K mg base) (hk : 1 ≤ k) :
    FnOk P w K mg base CX0 (k + 1) f fd p_law (spLaw K) := by
  have GD : FnOk P w K mg base CX0 k fD fdD p_l_draws (spDr K) := (ok_draws (k := 0) FD hl).mono hk
  have bD : Binds K fdD p_l_draws [] := FD.bindsN fun _ _ _ _ _ _ us hl => match us, hl with | [_], _ => rfl
  refine F.ok sc_law (fun vs H Q E h => ?_) (fun cdv A outer s H vs Q E hr h => ⟨_, PSs.nox (pss_wpt _), ?_⟩)
  · obtain ⟨a, ns, rfl, _⟩ := h; rfl
  · refine of_pss (pss_cons (ps_set (i := 1) sc_law.nd rfl (Or.inr rfl) (pe_call GD hr (by rfl) gD FD.kp bD .nil pass0 (pa_cons (pv 0) pa_nil))) (pss_wpt (defBody s_law).tail)) ?_
    obtain ⟨a, ns, rfl, hS, q⟩ := h
    refine ⟨_, rfl, a, ns, rfl, hS, fun B L ms H' hB hL => ?_⟩
    have hBL : B ≠ L := by
      intro e; rw [← e, hB] at hL
      cases ms with
      | nil => cases hL
      | cons a as => injection hL with q; injection q with q; injection q with q; cases q
    have hS' : Same (upd (fun _ => none) L (.lst (ms.map V.int))) H' := by
      intro b o hb
      by_cases e : b = L
      · subst e; rw [upd_same] at hb; rw [← hb]; exact hL
      · rw [upd_ne e] at hb; cases hb
    have hBag : BagOk B (upd (fun _ => none) L (.lst (ms.map V.int))) H' := ⟨by rw [upd_ne hBL], L, ms, 0, 0, 12020, 0, hB, upd_same, by decide, by decide, by decide, by decide⟩
    have SX : StX ΓL k n_law (defScope s_law) (defScope s_law) (cxOf CX0 P w K mg base n_law "law" (defScope s_law) f cdv A outer s H E).nox :=
      ⟨rfl, rfl, sc_law.kind, sc_law.nd, rfl, hr, fun x l => ⟨l, .inl rfl⟩, G⟩
    refine sSs (Γ := ΓL) (k := k) (N := n_law) b_law (defScope s_law) (defBody s_law).tail k_law _ SX PassesOwn.never B _ H' _ H' _ (.no :: .dat .bag :: List.replicate 14 .no) _ _ ⟨hS', hBag, rfl, fun i s h => ?_, fun i j ds es a _ h1 => ?_, Nx.refl hS' hBag⟩ (w_law (W := fun d => d = .bl true) rfl) ⟨?_, ?_, ?_, ?_⟩
    · rcases i with _ | _ | i
      · cases h; trivial
      · cases h; exact ⟨.ref B, rfl, .bag⟩
      · have e : s = .no := List.eq_of_mem_replicate (List.mem_of_getElem? (show (List.replicate 14 Sl.no)[i]? = some s from h))
        subst e; trivial
    · rcases i with _ | _ | i
      · cases h1
      · cases h1
      · have e : Sl.own ds = .no := List.eq_of_mem_replicate (List.mem_of_getElem? (show (List.replicate 14 Sl.no)[i]? = some (Sl.own ds) from h1))
        cases e
    · exact fun σ ρ R' H' _ o hw => by cases hw
    · exact fun σ ρ R' H' _ o hw => hw.elim
    · exact fun σ ρ R' H' _ o hw => hw.elim
    · exact fun v d R' H'' n r hw => by
        subst hw
        cases r
        exact q H''
theorem len_integer : ∀ ds W, sp_is_integer ds W → ds.length = 1 := by
  intro ds W h
  unfold sp_is_integer at h
  split at h
  · rfl
  · exact h.elim
theorem len_number : ∀ ds W, sp_is_number ds W → ds.length = 3 := by
  intro ds W h
  unfold sp_is_number at h
  split at h
  · rfl
  · exact h.elim
theorem len_vector : ∀ ds W, sp_is_vector ds W → ds.length = 2 := by
  intro ds W h
  unfold sp_is_vector at h
  split at h
  · rfl
  · exact h.elim
theorem len_part : ∀ ds W, sp_is_part ds W → ds.length = 2 := by
  intro ds W h
  unfold sp_is_part at h
  split at h
  · rfl
  · exact h.elim
theorem len_zero : ∀ ds W, sp_is_zero ds W → ds.length = 1 := by
  intro ds W h
  unfold sp_is_zero at h
  split at h
  · rfl
  · exact h.elim
theorem len_any : ∀ ds W, sp_any ds W → ds.length = 2 := by
  intro ds W h
  unfold sp_any at h
  split at h
  · rfl
  · exact h.elim
theorem len_like {n : Nat} : ∀ ds W, sp_like n ds W → ds.length = 2 := by
  intro ds W h
  unfold sp_like at h
  split at h
  · rfl
  · exact h.elim
/-- _law_like, by the depth of what is due -/
theorem fe_like {f : Addr} {fd : FuncData} (F : FnP K "_law_like" s_l_like f fd) (g : mg "_law_like" = some (.ref f)) (hb : Binds K fd p_l_like []) (hbl : ∀ x, x ∈ blN → mg x = none) : ∀ n : Nat, FnE K mg P w base (n + 1) "_law_like" (r_like n)
  | 0 => fe (Γ := Sg0) (k := 0) F g hb sc_l_like (sg_nil hbl) k_l_like len_like (fun ds W h => by
      unfold sp_like at h
      split at h
      · omega
      · exact h.elim) no_kw
  | n + 1 => fe (Γ := Sg0.add "_law_like" (r_like n)) (k := n + 1) F g hb sc_l_like (sg_add (sg_nil hbl) (fe_like F g hb hbl n)) k_l_like len_like (fun ds W h => by
      unfold sp_like at h
      split at h
      · exact w_like (Sg.add_same _ _ _) h.1.1 h.1.2.1 h.1.2.2 h.2
      · exact h.elim) no_kw
end
theorem facts {P : Program} {w : World} {K : PySem.W.Frag} {h : Heap} {mg : Str → Option Value} {f : Addr} (X : K.In h) (G : h.Ns mainGlobals mg) (hfa : mg ("law" : Str) = some (.ref f)) (c : He.SaysD fa fn K) :
    ∃ fd : FuncData, (∀ (s : Shared) (v : Value), BindsTo s fd ⟨[v], []⟩ [("_law_script", v)]) ∧ ∀ base : Heap, K.In base → base.Ns mainGlobals mg → FnOk P w K mg base CX0 4 f fd p_law (spLaw K) := by
  obtain ⟨f0, (F0 : FnP K "is_number" s_is_number _ f0)⟩ := c.def_ 0 (d := dd "is_number" s_is_number) rfl
  obtain ⟨f1, (F1 : FnP K "is_integer" s_is_integer _ f1)⟩ := c.def_ 1 (d := dd "is_integer" s_is_integer) rfl
  obtain ⟨f2, (F2 : FnP K "is_vector" s_is_vector _ f2)⟩ := c.def_ 2 (d := dd "is_vector" s_is_vector) rfl
  obtain ⟨f3, (F3 : FnP K "is_part" s_is_part _ f3)⟩ := c.def_ 3 (d := dd "is_part" s_is_part) rfl
  obtain ⟨f4, (F4 : FnP K "is_zero" s_is_zero _ f4)⟩ := c.def_ 4 (d := dd "is_zero" s_is_zero) rfl
  obtain ⟨f5, (F5 : FnP K "_law_draws" s_l_draws _ f5)⟩ := c.def_ 5 (d := dd "_law_draws" s_l_draws) rfl
  obtain ⟨f6, (F6 : FnP K "_law_pull" s_l_pull _ f6)⟩ := c.def_ 6 (d := dd "_law_pull" s_l_pull) rfl
  obtain ⟨f7, (F7 : FnP K "_law_any" s_l_any _ f7)⟩ := c.def_ 7 (d := dd "_law_any" s_l_any) rfl
  obtain ⟨f8, (F8 : FnP K "_law_like" s_l_like _ f8)⟩ := c.def_ 8 (d := dd "_law_like" s_l_like) rfl
  obtain ⟨f9, (F9 : FnP K "_law_is_part" s_l_is_part _ f9)⟩ := c.def_ 9 (d := dd "_law_is_part" s_l_is_part) rfl
  obtain ⟨fd, (F : FnP K "law" s_law _ fd)⟩ := c.def_ 10 (d := dd "law" s_law) rfl
  have e := hfa.symm.trans (He.glo_ok X G (c.fact 10 (f := .glo "law") rfl))
  cases e
  have b := FunD.bindsA (ps := p_law) F fun _ _ _ _ _ _ us hl => match us, hl with | [_], _ => rfl
  have g0 := He.glo_ok X G (c.fact 0 (f := .glo "is_number") rfl)
  have g1 := He.glo_ok X G (c.fact 1 (f := .glo "is_integer") rfl)
  have g2 := He.glo_ok X G (c.fact 2 (f := .glo "is_vector") rfl)
  have g3 := He.glo_ok X G (c.fact 3 (f := .glo "is_part") rfl)
  have g4 := He.glo_ok X G (c.fact 4 (f := .glo "is_zero") rfl)
  have g5 := He.glo_ok X G (c.fact 5 (f := .glo "_law_draws") rfl)
  have g6 := He.glo_ok X G (c.fact 6 (f := .glo "_law_pull") rfl)
  have g7 := He.glo_ok X G (c.fact 7 (f := .glo "_law_any") rfl)
  have g8 := He.glo_ok X G (c.fact 8 (f := .glo "_law_like") rfl)
  have g9 := He.glo_ok X G (c.fact 9 (f := .glo "_law_is_part") rfl)
  have hbl : ∀ x, x ∈ blN → mg x = none := by
    intro x hx
    simp only [blN, List.mem_cons, List.not_mem_nil, or_false] at hx
    rcases hx with rfl | rfl | rfl | rfl | rfl | rfl | rfl | rfl | rfl | rfl | rfl | rfl | rfl | rfl | rfl
    · exact He.free_ok X G (c.fact 11 (f := .free "len") rfl)
    · exact He.free_ok X G (c.fact 12 (f := .free "all") rfl)
    · exact He.free_ok X G (c.fact 13 (f := .free "any") rfl)
    · exact He.free_ok X G (c.fact 14 (f := .free "tuple") rfl)
    · exact He.free_ok X G (c.fact 15 (f := .free "list") rfl)
    · exact He.free_ok X G (c.fact 16 (f := .free "int") rfl)
    · exact He.free_ok X G (c.fact 17 (f := .free "abs") rfl)
    · exact He.free_ok X G (c.fact 18 (f := .free "sum") rfl)
    · exact He.free_ok X G (c.fact 19 (f := .free "isinstance") rfl)
    · exact He.free_ok X G (c.fact 20 (f := .free "range") rfl)
    · exact He.free_ok X G (c.fact 21 (f := .free "zip") rfl)
    · exact He.free_ok X G (c.fact 22 (f := .free "enumerate") rfl)
    · exact He.free_ok X G (c.fact 23 (f := .free "bool") rfl)
    · exact He.free_ok X G (c.fact 24 (f := .free "str") rfl)
    · exact He.free_ok X G (c.fact 25 (f := .free "dict") rfl)
  refine ⟨fd, fun s v => b s [v] rfl, fun base _ _ => ?_⟩
  have z0 : SgOk Sg0 0 P w K mg base := sg_nil hbl
  have E1 : FnE K mg P w base 1 "is_integer" r_is_integer := fe F1 g1 (F1.bindsN fun _ _ _ _ _ _ us hl => match us, hl with | [_], _ => rfl) sc_is_integer z0 k_is_integer len_integer (fun ds W h => by
    unfold sp_is_integer at h; split at h
    · exact w_is_integer h.1 h.2
    · exact h.elim) no_kw
  have E0 : FnE K mg P w base 1 "is_number" r_is_number := fe F0 g0 (F0.bindsN fun _ _ _ _ _ _ us hl => match us, hl with | [_, _, _], _ => rfl) sc_is_number z0 k_is_number len_number (fun ds W h => by
    unfold sp_is_number at h; split at h
    · exact w_is_number h.1 h.2
    · exact h.elim) (one_kw (kb_rev F0 fun _ _ _ _ _ _ _ _ _ => rfl))
  have E2 : FnE K mg P w base 2 "is_vector" r_is_vector := fe (Γ := Sg0.add "is_integer" r_is_integer) F2 g2 (F2.bindsN fun _ _ _ _ _ _ us hl => match us, hl with | [_, _], _ => rfl) sc_is_vector (sg_add (sg_nil hbl) E1) k_is_vector len_vector (fun ds W h => by
    unfold sp_is_vector at h; split at h
    · exact w_is_vector (Sg.add_same _ _ _) h.1 h.2
    · exact h.elim) (one_kw (kb_id F2 fun _ _ _ _ _ _ _ _ => rfl))
  have E3 : FnE K mg P w base 1 "is_part" r_is_part := fe F3 g3 (F3.bindsN fun _ _ _ _ _ _ us hl => match us, hl with | [_, _], _ => rfl) sc_is_part z0 k_is_part len_part (fun ds W h => by
    unfold sp_is_part at h; split at h
    · obtain ⟨ns, ms, rfl, rfl, h⟩ := h
      exact w_part_any _ _ _ rfl h
    · exact h.elim) (one_kw (kb_id F3 fun _ _ _ _ _ _ _ _ => rfl))
  have E4 : FnE K mg P w base 1 "is_zero" r_is_zero := fe F4 g4 (F4.bindsN fun _ _ _ _ _ _ us hl => match us, hl with | [_], _ => rfl) sc_is_zero z0 k_is_zero len_zero (fun ds W h => by
    unfold sp_is_zero at h; split at h
    · obtain ⟨ns, rfl, h⟩ := h
      exact w_is_zero h
    · exact h.elim) no_kw
  have E6 : FnE K mg P w base 1 "_law_pull" r_pull := ⟨_, f6, g6, F6.kp, F6.bindsN fun _ _ _ _ _ _ us hl => match us, hl with | [_, _], _ => rfl, ok_pull (k := 0) F6 (hbl _ (by simp [blN])) (hbl _ (by simp [blN])), no_kw⟩
  have E7 : FnE K mg P w base 2 "_law_any" r_any := fe (Γ := Sg0.add "_law_pull" r_pull) F7 g7 (F7.bindsN fun _ _ _ _ _ _ us hl => match us, hl with | [_, _], _ => rfl) sc_l_any (sg_add (sg_nil hbl) E6) k_l_any len_any (fun ds W h => by
    unfold sp_any at h; split at h
    · exact w_any (Sg.add_same _ _ _) h.1 h.2
    · exact h.elim) no_kw
  have E9 : FnE K mg P w base 1 "_law_is_part" r_l_is_part := fe F9 g9 (F9.bindsN fun _ _ _ _ _ _ us hl => match us, hl with | [_, _], _ => rfl) sc_l_is_part z0 k_l_is_part len_part (fun ds W h => by
    unfold sp_is_part at h; split at h
    · obtain ⟨ns, ms, rfl, rfl, h⟩ := h
      exact w_part_any _ _ _ rfl h
    · exact h.elim) no_kw
  have E8 : FnE K mg P w base 3 "_law_like" (r_like 2) := fe_like F8 g8 (F8.bindsN fun _ _ _ _ _ _ us hl => match us, hl with | [_, _], _ => rfl) hbl 2
  have GL : SgOk ΓL 3 P w K mg base := sg_add (sg_add (sg_add (sg_add (sg_add (sg_add (sg_add (sg_add (sg_nil hbl) (E6.up (by decide))) (E7.up (by decide))) (E0.up (by decide))) (E2.up (by decide))) (E4.up (by decide))) (E3.up (by decide))) (E9.up (by decide))) E8
  exact ok_law (k := 3) F F5 g5 (hbl _ (by simp [blN])) GL (by decide)
end K2
open PySem PySem.W PySem.Calls PyProof.Rows
theorem PySem.Challenge.cw_onekink_k02_numbers_and_vectors_holds : PySem.Challenge.rw_onekink_k02_numbers_and_vectors.Holds := by
  w_on; o_law
  refine HandSHeadRun.head_any (r := OpenLaw.row PySem.Challenge.rw_onekink_k02_numbers_and_vectors) (q := view (OpenLaw.row PySem.Challenge.rw_onekink_k02_numbers_and_vectors).prog [12]) (H := K2.hk) (ob := K2.ob) (M := 1500) (loose := K2.loose) (d := HandSHeadRun.topDef (OpenLaw.row PySem.Challenge.rw_onekink_k02_numbers_and_vectors).prog 12) (kwd := []) K2.ob_eq
    (by kernel_rfl) (fun s => by kernel_rfl) K2.run (by kernel_rfl) (by kernel_rfl) (by kernel_rfl) (by rfl) (by first | assumption | decide +kernel) (by decide +kernel) ⟨rfl, rfl, rfl, rfl, rfl, by decide +kernel⟩ ?hw ?hc
  case hw => w_witness2
  case hc =>
    refine L2.walk_ofE (l := PySem.Challenge.rw_onekink_k02_numbers_and_vectors) (n := 63) (k := 4) (x := "_law_script") (CX := L2.CX0) rfl (by decide) (by kernel_rfl) ⟨rfl, by decide, by decide⟩ ?F (fun _ _ _ _ z => z)
    intro w mg fa h Y G hmg0
    obtain ⟨K, KX, c⟩ := Y
    have hmg : mg ("law" : PySem.Str) = some (.ref fa) := by
      have e : (HandSHeadRun.topDef (OpenLaw.row PySem.Challenge.rw_onekink_k02_numbers_and_vectors).prog 12).name = ("law" : PySem.Str) := by kernel_rfl
      rw [← e]
      exact hmg0
    obtain ⟨fd, hb, hF⟩ := K2.facts (P := (PySem.Challenge.rw_onekink_k02_numbers_and_vectors).prog) (w := w) KX G hmg c
    exact ⟨K, fd, K2.spLaw K, KX, hb, fun H a ns hl _ hS => ⟨a, ns, rfl, hS, fun _ => rfl⟩, hF⟩
