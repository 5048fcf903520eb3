import PyProof.Rows.All
import Wide.All
import OpenK.AllK
import Wide.FinOn
import HandS.ForMost
import PyProof.EqKinds
import KE.KEqDict
import KE.KEqNest
import HandS.Walk
import HandS.Zip
import HandS.IsInst
import HandS.TupAny
import HandS.TupMul
import HandS.Wide
import HandS.Defaults
import HandS.Star
import HandS.Exc
import HandS.ExcOwn
import HandS.ExcInit
import HandS.FStr
import HandS.HeadHook1
import HandS.HeadHook2
import HandS.SortInts
import HandS.Steps
import HandS.WordsExc
import HandS.Text
import HandS.SlotsOwn
import HandS.Iter
import KE.GoesEnum
import HandS.Head0
import HandS.Head1
import HandS.Head2
import HandS.HeadEnd
import Lean
import PySem.Challenge.RW_onekink_k42_prices_that_cost_the_same
set_option Elab.async false
set_option linter.all false
set_option maxRecDepth 100000
set_option autoImplicit false
set_option maxHeartbeats 4000000
namespace DLQ
open PySem PySem.SeqAt PySem.Spec PyProof.Rows
open AutoSeq1 (wpAny_loadPart')
open MeetsSeq
theorem dict_eq_declines_tuple (l b : Addr) (es : Array DictEntry) (ep : Nat) (items2 : Array Value) (n2 : Nat) (dd dd2 : Option Addr) (sl sl2 : Array (Option Value)) :
    Meets (Builtin.«dict.__eq__» ⟨[.ref l, .ref b], []⟩) (fun _ R s => s.heap.get? l = some { cls := .type "dict", dict := dd, data := .dict es ep, slots := sl } ∧ s.heap.get? b = some { cls := .type "tuple", dict := dd2, data := .seq items2 n2, slots := sl2 } ∧ R (.ok (.ret .notImplemented)) s) :=
  .of_wp fun prog w A R s h => by obtain ⟨hp, g, d, tk, os⟩ := s; obtain ⟨hl, hb, h⟩ := h; have f1 := F.sub_tuple_dict; wp_walk using wpAny_loadPart' hl, wpAny_loadPart' hb; exact ⟨_, rfl, h⟩
theorem tuple_eq_declines_dict (l b : Addr) (es : Array DictEntry) (ep : Nat) (items2 : Array Value) (n2 : Nat) (dd dd2 : Option Addr) (sl sl2 : Array (Option Value)) :
    Meets (Builtin.«tuple.__eq__» ⟨[.ref l, .ref b], []⟩) (fun _ R s => s.heap.get? b = some { cls := .type "dict", dict := dd, data := .dict es ep, slots := sl } ∧ s.heap.get? l = some { cls := .type "tuple", dict := dd2, data := .seq items2 n2, slots := sl2 } ∧ R (.ok (.ret .notImplemented)) s) :=
  .of_wp fun prog w A R s h => by obtain ⟨hp, g, d, tk, os⟩ := s; obtain ⟨hl, hb, h⟩ := h; have f1 := F.sub_dict_tuple; wp_walk using wpAny_loadPart' hl, wpAny_loadPart' hb; exact ⟨_, rfl, h⟩
section
variable {A : Around} {s : Shared}
theorem rc_dict_tuple {l b : Addr} {o : Obj} {es : Array DictEntry} {ep : Nat} {items2 : Array Value} (ho : s.heap.get? l = some o) (hc : o.cls = .type "dict") (hd : o.data = .dict es ep) (hb : s.heap.IsTuple b items2) (hu : A.units < cLine) : RcAt A s (.ref l) (.ref b) false := fun prog w E Q h => by
  obtain ⟨⟨cls2, dd2, data2, sl2⟩, ho2, hc2, n2, hd2⟩ := id hb
  obtain ⟨cls, dd, data, sl⟩ := o
  simp only at hc hd hc2 hd2
  subst hc hd hc2 hd2
  have hne : l ≠ b := fun e => by
    subst e
    rw [ho] at ho2
    have z := congrArg Obj.cls (Option.some.inj ho2)
    exact absurd z (by simp)
  exact (rc_eq_decline_or (k := false) ⟨_, ho, rfl⟩ ⟨_, ho2, rfl⟩ (by decide) F.sub_tuple_dict F.slot_dict_eq F.slot_tuple_eq_refl
    (fun _ hq => call_meets F.slot_dict_eq ⟨_, ho, rfl⟩ F.entry_dict_eq (F.args_dict_eq_2 _ _) (dict_eq_declines_tuple l b es ep items2 n2 dd dd2 sl sl2) ⟨ho, ho2, hq⟩)
    (fun _ hq => call_meets F.slot_tuple_eq_refl ⟨_, ho2, rfl⟩ F.entry_tuple_eq (F.args_tuple_eq_2 _ _) (tuple_eq_declines_dict b l es ep items2 n2 dd dd2 sl sl2) ⟨ho, ho2, hq⟩)
    (fun _ hq => wpAny_isSame_ref_other hne ho ho2 (by simp) hq) (.inr hu) h)
end
section
open L2
variable {X : Cx}
def rEqDT (K : PySem.W.Frag) : R2 := fun x y H Q => ∃ a b kvs xs, x = .ref a ∧ y = .ref b ∧ H a = some (.dK kvs) ∧ SqT K H b xs ∧ Q (.bl false) H
theorem op_eqDT (hu : X.A.units + 64 < cLine) : OpR X (compareOp .Eq) (rEqDT X.K) := by
  intro pins s σ H x y v u Q I rx ry h
  obtain ⟨a, b, kvs, xs, rfl, rfl, ha, hb, q⟩ := h
  cases rx
  cases ry
  obtain ⟨its, rv, p, _⟩ := I.tuple hb
  obtain ⟨_, _, vs, _, o, es, ep, h1, h2, h3, _⟩ := (show ObjOk X.prog X.w H s.heap a (.dK kvs) from I.hok a _ ha)
  exact rc_dict_tuple h1 h2.1 h3 (show s.heap.IsTuple b its.toArray from p) (by omega) X.prog X.w _ _ ⟨.bl false, H, I, rfl, q⟩
end
end DLQ
set_option maxHeartbeats 4000000
/-! MP: data, a store of objects that change, and how they lie in the layer's heap. -/
namespace MP
open PySem PySem.Spec PyProof.Rows L2

/-- data: trees; loc: an object that changes, told by the store -/
inductive D where
  | non | bl (b : Bool) | int (i : Int) | str (x : Str)
  | tup (ds : List D) | lst (ds : List D) | dct (kvs : List (Key × D))
  | ins (c : Nat) (fs : List (Nat × D)) | exc (c : Nat) (fs : List (Nat × D))
  | loc (a : Addr) | bag
abbrev Mu := Addr → Option D
def Mu.set (μ : Mu) (a : Addr) (d : D) : Mu := fun b => if b = a then some d else μ b
def Mu.del (μ : Mu) (a : Addr) : Mu := fun b => if b = a then none else μ b
theorem Mu.set_same {μ : Mu} {a : Addr} {d : D} : μ.set a d a = some d := if_pos rfl
theorem Mu.set_ne {μ : Mu} {a b : Addr} {d : D} (h : b ≠ a) : μ.set a d b = μ b := if_neg h
theorem Mu.del_same {μ : Mu} {a : Addr} : μ.del a a = none := if_pos rfl
theorem Mu.del_ne {μ : Mu} {a b : Addr} (h : b ≠ a) : μ.del a b = μ b := if_neg h
theorem Mu.set_set {μ : Mu} {a : Addr} {d e : D} : (μ.set a d).set a e = μ.set a e := by
  funext b; unfold Mu.set; split <;> rfl
theorem Mu.del_set {μ : Mu} {a : Addr} {d : D} (h : μ a = none) : (μ.set a d).del a = μ := by
  funext b
  by_cases e : b = a
  · subst e; rw [Mu.del_same, h]
  · rw [Mu.del_ne e, Mu.set_ne e]

/-- what the relation leans on: the written part, where the draws' list stands, the classes, the attributes' names -/
structure Tb where
  K : PySem.W.Frag
  B : Addr
  ca : Nat → Addr
  an : Nat → Str
  inj : ∀ i j, an i = an j → i = j
/-- an exception of the class at C, its own dict at d -/
def exh (a C d : Addr) : HO := .ext fun h => ∃ (o : Obj) (vs : Array Value), h.get? a = some o ∧ o.cls = .ref C ∧ o.dict = some d ∧ o.data = .fields vs
mutual
inductive Rd (T : Tb) (R : Hp) : V → D → Prop
  | non : Rd T R .non .non
  | bl (b : Bool) : Rd T R (.bl b) (.bl b)
  | int (i : Int) : Rd T R (.int i) (.int i)
  | str (x : Str) : Rd T R (.str x) (.str x)
  | tup {a : Addr} {xs : List V} {ds : List D} : SqT T.K R a xs → RdAll T R xs ds → Rd T R (.ref a) (.tup ds)
  | lst {a : Addr} {xs : List V} {ds : List D} : R a = some (.lst xs) → RdAll T R xs ds → Rd T R (.ref a) (.lst ds)
  | dct {a : Addr} {kvs : List (Key × V)} {ds : List (Key × D)} : R a = some (.dK kvs) → RdKV T R kvs ds → Rd T R (.ref a) (.dct ds)
  | ins {a dx : Addr} {c : Nat} {vs : List (Str × V)} {fs : List (Nat × D)} : R a = some (.ins (T.ca c) dx vs) → RdF T R vs fs → Rd T R (.ref a) (.ins c fs)
  | exc {a dx : Addr} {c : Nat} {vs : List (Str × V)} {fs : List (Nat × D)} : R a = some (exh a (T.ca c) dx) → R dx = some (exd dx vs) → RdF T R vs fs → Rd T R (.ref a) (.exc c fs)
  | loc (a : Addr) : Rd T R (.ref a) (.loc a)
  | bag : Rd T R (.ref T.B) .bag
inductive RdAll (T : Tb) (R : Hp) : List V → List D → Prop
  | nil : RdAll T R [] []
  | cons {v : V} {vs : List V} {d : D} {ds : List D} : Rd T R v d → RdAll T R vs ds → RdAll T R (v :: vs) (d :: ds)
inductive RdKV (T : Tb) (R : Hp) : List (Key × V) → List (Key × D) → Prop
  | nil : RdKV T R [] []
  | cons {k : Key} {v : V} {vs : List (Key × V)} {d : D} {ds : List (Key × D)} : Rd T R v d → RdKV T R vs ds → RdKV T R ((k, v) :: vs) ((k, d) :: ds)
inductive RdF (T : Tb) (R : Hp) : List (Str × V) → List (Nat × D) → Prop
  | nil : RdF T R [] []
  | cons {f : Nat} {v : V} {vs : List (Str × V)} {d : D} {ds : List (Nat × D)} : Rd T R v d → RdF T R vs ds → RdF T R ((T.an f, v) :: vs) ((f, d) :: ds)
end
theorem sqT_mono {K : PySem.W.Frag} {H H' : Hp} {a : Addr} {xs : List V} (e : Same H H') (h : SqT K H a xs) : SqT K H' a xs := by
  rcases h with (h | ⟨o, h⟩) | h
  · exact .inl (.inl (e _ _ h))
  · exact .inl (.inr ⟨o, e _ _ h⟩)
  · exact .inr h
section
variable {T : Tb} {R R' : Hp}
mutual
theorem Rd.mono (e : Same R R') : ∀ {v : V} {d : D}, Rd T R v d → Rd T R' v d
  | _, _, .non => .non
  | _, _, .bl b => .bl b
  | _, _, .int i => .int i
  | _, _, .str x => .str x
  | _, _, .tup s q => .tup (sqT_mono e s) (RdAll.mono e q)
  | _, _, .lst s q => .lst (e _ _ s) (RdAll.mono e q)
  | _, _, .dct s q => .dct (e _ _ s) (RdKV.mono e q)
  | _, _, .ins s q => .ins (e _ _ s) (RdF.mono e q)
  | _, _, .exc s u q => .exc (e _ _ s) (e _ _ u) (RdF.mono e q)
  | _, _, .loc a => .loc a
  | _, _, .bag => .bag
theorem RdAll.mono (e : Same R R') : ∀ {v : List V} {d : List D}, RdAll T R v d → RdAll T R' v d
  | _, _, .nil => .nil
  | _, _, .cons a r => .cons (Rd.mono e a) (RdAll.mono e r)
theorem RdKV.mono (e : Same R R') : ∀ {v : List (Key × V)} {d : List (Key × D)}, RdKV T R v d → RdKV T R' v d
  | _, _, .nil => .nil
  | _, _, .cons a r => .cons (Rd.mono e a) (RdKV.mono e r)
theorem RdF.mono (e : Same R R') : ∀ {v : List (Str × V)} {d : List (Nat × D)}, RdF T R v d → RdF T R' v d
  | _, _, .nil => .nil
  | _, _, .cons a r => .cons (Rd.mono e a) (RdF.mono e r)
end
theorem RdAll.length : ∀ {v : List V} {d : List D}, RdAll T R v d → v.length = d.length
  | _, _, .nil => rfl
  | _, _, .cons _ r => by simp [RdAll.length r]
theorem RdKV.length : ∀ {v : List (Key × V)} {d : List (Key × D)}, RdKV T R v d → v.length = d.length
  | _, _, .nil => rfl
  | _, _, .cons _ r => by simp [RdKV.length r]
theorem RdF.length : ∀ {v : List (Str × V)} {d : List (Nat × D)}, RdF T R v d → v.length = d.length
  | _, _, .nil => rfl
  | _, _, .cons _ r => by simp [RdF.length r]
theorem RdAll.append : ∀ {v v' : List V} {d d' : List D}, RdAll T R v d → RdAll T R v' d' → RdAll T R (v ++ v') (d ++ d')
  | _, _, _, _, .nil, r => r
  | _, _, _, _, .cons a r, s => .cons a (RdAll.append r s)
theorem RdAll.take : ∀ {v : List V} {d : List D} (n : Nat), RdAll T R v d → RdAll T R (v.take n) (d.take n)
  | _, _, 0, _ => by simp; exact .nil
  | _, _, n + 1, .nil => by simp; exact .nil
  | _, _, n + 1, .cons a r => .cons a (RdAll.take n r)
theorem RdAll.drop : ∀ {v : List V} {d : List D} (n : Nat), RdAll T R v d → RdAll T R (v.drop n) (d.drop n)
  | _, _, 0, r => r
  | _, _, n + 1, .nil => .nil
  | _, _, n + 1, .cons a r => RdAll.drop n r
theorem RdAll.get : ∀ {v : List V} {d : List D} {i : Nat} {x : V}, RdAll T R v d → v[i]? = some x → ∃ y, d[i]? = some y ∧ Rd T R x y
  | _, _, _, _, .nil, e => by simp at e
  | _, _, 0, _, .cons a _, e => by simp at e; subst e; exact ⟨_, rfl, a⟩
  | _, _, i + 1, x, .cons _ r, e => by
    obtain ⟨y, h1, h2⟩ := RdAll.get (i := i) (x := x) r (by simpa using e)
    exact ⟨y, by simpa using h1, h2⟩
theorem RdAll.get' : ∀ {v : List V} {d : List D} {i : Nat} {y : D}, RdAll T R v d → d[i]? = some y → ∃ x, v[i]? = some x ∧ Rd T R x y
  | _, _, _, _, .nil, e => by simp at e
  | _, _, 0, _, .cons a _, e => by simp at e; subst e; exact ⟨_, rfl, a⟩
  | _, _, i + 1, y, .cons _ r, e => by
    obtain ⟨x, h1, h2⟩ := RdAll.get' (i := i) (y := y) r (by simpa using e)
    exact ⟨x, by simpa using h1, h2⟩
theorem RdAll.set : ∀ {v : List V} {d : List D} (i : Nat) {x : V} {y : D}, RdAll T R v d → Rd T R x y → RdAll T R (v.set i x) (d.set i y)
  | _, _, _, _, _, .nil, _ => by simp; exact .nil
  | _, _, 0, _, _, .cons _ r, h => .cons h r
  | _, _, i + 1, _, _, .cons a r, h => .cons a (RdAll.set i r h)
theorem RdAll.eraseIdx : ∀ {v : List V} {d : List D} (i : Nat), RdAll T R v d → RdAll T R (v.eraseIdx i) (d.eraseIdx i)
  | _, _, _, .nil => by simp; exact .nil
  | _, _, 0, .cons _ r => r
  | _, _, i + 1, .cons a r => .cons a (RdAll.eraseIdx i r)
theorem RdAll.reverse {v : List V} {d : List D} (h : RdAll T R v d) : RdAll T R v.reverse d.reverse := by
  induction v generalizing d with
  | nil => cases h; exact .nil
  | cons x xs ih => cases h with | cons a r => simpa using (ih r).append (.cons a .nil)
theorem RdAll.ints : ∀ {v : List V} {ns : List Int}, RdAll T R v (ns.map D.int) → v = ns.map V.int
  | _, [], h => by cases h; rfl
  | _, n :: ns, h => by
    cases h with
    | cons a r => cases a; rw [RdAll.ints r]; rfl
theorem RdAll.strs : ∀ {v : List V} {ns : List Str}, RdAll T R v (ns.map D.str) → v = ns.map V.str
  | _, [], h => by cases h; rfl
  | _, n :: ns, h => by
    cases h with
    | cons a r => cases a; rw [RdAll.strs r]; rfl
theorem RdAll.of_ints : ∀ (ns : List Int), RdAll T R (ns.map V.int) (ns.map D.int)
  | [] => .nil
  | n :: ns => .cons (.int n) (RdAll.of_ints ns)
theorem RdAll.of_strs : ∀ (ns : List Str), RdAll T R (ns.map V.str) (ns.map D.str)
  | [] => .nil
  | n :: ns => .cons (.str n) (RdAll.of_strs ns)
theorem RdF.lookup {f : Nat} {d : D} : ∀ {v : List (Str × V)} {ds : List (Nat × D)}, RdF T R v ds → ds.lookup f = some d → ∃ x, v.lookup (T.an f) = some x ∧ Rd T R x d
  | _, _, .nil, h => by cases h
  | _, _, @RdF.cons _ _ g v vs e ds a r, h => by
    by_cases c : f = g
    · subst c
      simp [List.lookup] at h ⊢
      subst h; exact a
    · have c' : (f == g) = false := by simpa using c
      have c2 : (T.an f == T.an g) = false := by
        rw [beq_eq_false_iff_ne]; exact fun z => c (T.inj _ _ z)
      simp only [List.lookup, c'] at h
      simp only [List.lookup, c2]
      exact RdF.lookup r h
theorem RdF.lookup_none {f : Nat} : ∀ {v : List (Str × V)} {ds : List (Nat × D)}, RdF T R v ds → ds.lookup f = none → v.lookup (T.an f) = none
  | _, _, .nil, h => rfl
  | _, _, @RdF.cons _ _ g v vs e ds a r, h => by
    by_cases c : f = g
    · subst c
      simp [List.lookup] at h
    · have c' : (f == g) = false := by simpa using c
      have c2 : (T.an f == T.an g) = false := by
        rw [beq_eq_false_iff_ne]; exact fun z => c (T.inj _ _ z)
      simp only [List.lookup, c'] at h
      simp only [List.lookup, c2]
      exact RdF.lookup_none r h
def putD (f : Nat) (v : D) : List (Nat × D) → List (Nat × D)
  | [] => [(f, v)]
  | (g, x) :: r => if g = f then (g, v) :: r else (g, x) :: putD f v r
theorem RdF.put {f : Nat} {x : V} {d : D} (h : Rd T R x d) : ∀ {v : List (Str × V)} {ds : List (Nat × D)}, RdF T R v ds → RdF T R (putF (T.an f) x v) (putD f d ds)
  | _, _, .nil => .cons h .nil
  | _, _, @RdF.cons _ _ g v vs e ds a r => by
    unfold putF putD
    by_cases c : g = f
    · subst c; rw [if_pos rfl, if_pos rfl]; exact .cons h r
    · rw [if_neg c, if_neg fun z => c (T.inj _ _ z)]; exact .cons a (RdF.put h r)
def valD (kvs : List (Key × D)) (k : Key) : Option D := (kvs.find? fun kv => decide (kv.1 = k)).map (·.2)
theorem RdKV.val {k : Key} : ∀ {v : List (Key × V)} {ds : List (Key × D)}, RdKV T R v ds → (valD ds k = none ∧ valV v k = none) ∨ ∃ x d, valD ds k = some d ∧ valV v k = some x ∧ Rd T R x d
  | _, _, .nil => .inl ⟨rfl, rfl⟩
  | _, _, @RdKV.cons _ _ g v vs e ds a r => by
    unfold valD valV
    by_cases c : g = k
    · subst c; exact .inr ⟨v, e, by simp, by simp, a⟩
    · have q := RdKV.val (k := k) r
      simp only [List.find?_cons, c, decide_false]
      exact q
end

/-- the bag: a list of the numbers, the place, the cell, the seed, the count -/
def BagOk (B : Addr) (R H : Hp) : Prop := R B = none ∧ ∃ (L : Addr) (ns : List Int) (i c m k : Int),
  H B = some (.lst [.ref L, .int i, .int c, .int m, .int k]) ∧ R L = some (.lst (ns.map V.int)) ∧ 0 ≤ i ∧ 0 ≤ c ∧ 0 ≤ m ∧ m < 2147483353
theorem bag_some {B : Addr} {R H : Hp} (b : BagOk B R H) : H B ≠ none := by
  obtain ⟨_, L, ns, i, c, m, k, h, _⟩ := b
  rw [h]; exact fun z => nomatch z
/-- an object of the store as it lies in the heap -/
def CellOk (T : Tb) (R H : Hp) (a : Addr) : D → Prop
  | .lst ds => ∃ vs, H a = some (.lst vs) ∧ RdAll T R vs ds
  | .dct ds => ∃ vs, H a = some (.dK vs) ∧ RdKV T R vs ds
  | .ins c fs => ∃ dx vs, H a = some (.ins (T.ca c) dx vs) ∧ RdF T R vs fs
  | _ => False
def StoOk (T : Tb) (R H : Hp) (μ : Mu) : Prop := ∀ a d, μ a = some d → R a = none ∧ a ≠ T.B ∧ CellOk T R H a d
theorem CellOk.some {T : Tb} {R H : Hp} {a : Addr} {d : D} (h : CellOk T R H a d) : H a ≠ none := by
  cases d <;> first | exact h.elim | skip
  · obtain ⟨_, e, _⟩ := h; rw [e]; exact fun z => nomatch z
  · obtain ⟨_, e, _⟩ := h; rw [e]; exact fun z => nomatch z
  · obtain ⟨_, _, e, _⟩ := h; rw [e]; exact fun z => nomatch z
theorem CellOk.mono {T : Tb} {R H R' H' : Hp} {a : Addr} {d : D} (h : CellOk T R H a d) (r : Same R R') (e : H' a = H a) : CellOk T R' H' a d := by
  cases d <;> first | exact h.elim | skip
  · obtain ⟨v, q, z⟩ := h; exact ⟨v, by rw [e]; exact q, z.mono r⟩
  · obtain ⟨v, q, z⟩ := h; exact ⟨v, by rw [e]; exact q, z.mono r⟩
  · obtain ⟨x, v, q, z⟩ := h; exact ⟨x, v, by rw [e]; exact q, z.mono r⟩
/-- from the state (μ, R, H) to the state (μ', R', H') -/
structure Nx (T : Tb) (μ : Mu) (R H : Hp) (μ' : Mu) (R' H' : Hp) : Prop where
  r : Same R R'
  s : Same R' H'
  h : ∀ b o, H b = some o → b ≠ T.B → μ b = none → H' b = some o
  l : ∀ b, H b ≠ none → H' b ≠ none
  n : ∀ b, H b ≠ none → μ b = none → R' b = R b ∧ μ' b = none
  b : BagOk T.B R' H'
  o : StoOk T R' H' μ'
section
variable {T : Tb} {μ μ' μ1 μ2 : Mu} {R H R' H' R1 H1 R2 H2 : Hp}
theorem Nx.refl (s : Same R H) (b : BagOk T.B R H) (o : StoOk T R H μ) : Nx T μ R H μ R H := ⟨fun _ _ h => h, s, fun _ _ h _ _ => h, fun _ h => h, fun _ _ h => ⟨rfl, h⟩, b, o⟩
theorem Nx.trans (x : Nx T μ R H μ1 R1 H1) (y : Nx T μ1 R1 H1 μ2 R2 H2) : Nx T μ R H μ2 R2 H2 :=
  ⟨x.r.trans y.r, y.s, fun b o h hb hm => y.h b o (x.h b o h hb hm) hb (x.n b (by rw [h]; exact fun z => nomatch z) hm).2, fun b h => y.l b (x.l b h), fun b h hm => by
    obtain ⟨e1, e2⟩ := x.n b h hm
    obtain ⟨e3, e4⟩ := y.n b (x.l b h) e2
    exact ⟨e3.trans e1, e4⟩, y.b, y.o⟩
theorem Nx.mu_some (o : StoOk T R H μ) {a : Addr} (h : H a = none) : μ a = none := by
  cases e : μ a with
  | none => rfl
  | some d => exact absurd h (o a d e).2.2.some
theorem fr_none (s : Same R H) {p : Addr} (hp : H p = none) : R p = none := s.free hp
/-- a new frozen object -/
theorem Nx.new (s : Same R H) (b : BagOk T.B R H) (o : StoOk T R H μ) {p : Addr} (hp : H p = none) (u : HO) : Nx T μ R H μ (upd R p u) (upd H p u) := by
  have rp : R p = none := fr_none s hp
  have pB : T.B ≠ p := fun e => bag_some b (by rw [e]; exact hp)
  have sm : Same R (upd R p u) := fun c w h => by rw [upd_ne (ne_of_none h rp)]; exact h
  refine ⟨sm, fun c w h => ?_, fun c w h hc _ => ?_, fun c h => ?_, fun c h hm => ⟨?_, hm⟩, ?_, fun a d e => ?_⟩
  · by_cases e : c = p
    · subst e; rw [upd_same] at h ⊢; exact h
    · rw [upd_ne e] at h ⊢; exact s c w h
  · rw [upd_ne (ne_of_none h hp)]; exact h
  · have : c ≠ p := fun e => h (by rw [e]; exact hp)
    rw [upd_ne this]; exact h
  · have : c ≠ p := fun e => h (by rw [e]; exact hp)
    rw [upd_ne this]
  · obtain ⟨hB, L, ns, i, c, m, k, h1, h2, h3⟩ := b
    refine ⟨by rw [upd_ne pB]; exact hB, L, ns, i, c, m, k, by rw [upd_ne pB]; exact h1, ?_, h3⟩
    rw [upd_ne (ne_of_none h2 rp)]; exact h2
  · obtain ⟨h1, h2, h3⟩ := o a d e
    have : a ≠ p := fun z => h3.some (by rw [z]; exact hp)
    exact ⟨by rw [upd_ne this]; exact h1, h2, h3.mono sm (by rw [upd_ne this])⟩
/-- an object that nobody knows -/
theorem Nx.extra (s : Same R H) (b : BagOk T.B R H) (o : StoOk T R H μ) {p : Addr} (hp : H p = none) (u : HO) : Nx T μ R H μ R (upd H p u) := by
  have pB : T.B ≠ p := fun e => bag_some b (by rw [e]; exact hp)
  refine ⟨Same.refl R, fun c w h => ?_, fun c w h hc _ => ?_, fun c h => ?_, fun c h hm => ⟨rfl, hm⟩, ?_, fun a d e => ?_⟩
  · rw [upd_ne (ne_of_none (s c w h) hp)]; exact s c w h
  · rw [upd_ne (ne_of_none h hp)]; exact h
  · have : c ≠ p := fun e => h (by rw [e]; exact hp)
    rw [upd_ne this]; exact h
  · obtain ⟨hB, L, ns, i, c, m, k, h1, h2, h3⟩ := b
    exact ⟨hB, L, ns, i, c, m, k, by rw [upd_ne pB]; exact h1, h2, h3⟩
  · obtain ⟨h1, h2, h3⟩ := o a d e
    have : a ≠ p := fun z => h3.some (by rw [z]; exact hp)
    exact ⟨h1, h2, h3.mono (Same.refl R) (by rw [upd_ne this])⟩
/-- an object goes into the store, or is written there: p is new, or of the store -/
theorem Nx.put (s : Same R H) (b : BagOk T.B R H) (o : StoOk T R H μ) {p : Addr} (hp : H p = none ∨ μ p ≠ none) {u : HO} {d : D} (c : CellOk T R (upd H p u) p d) : Nx T μ R H (μ.set p d) R (upd H p u) := by
  have rp : R p = none := by
    rcases hp with hp | hp
    · exact fr_none s hp
    · cases e : μ p with
      | none => exact absurd e hp
      | some d => exact (o p d e).1
  have pB : T.B ≠ p := fun e => by
    rcases hp with hp | hp
    · exact bag_some b (by rw [e]; exact hp)
    · cases q : μ p with
      | none => exact hp q
      | some d => exact (o p d q).2.1 e.symm
  have np : ∀ {x : Addr}, H x ≠ none → μ x = none → x ≠ p := fun {x} h hm e => by
    subst e
    rcases hp with hp | hp
    · exact h hp
    · exact hp hm
  refine ⟨Same.refl R, fun x w h => ?_, fun x w h hx hm => ?_, fun x h => ?_, fun x h hm => ⟨rfl, ?_⟩, ?_, fun a e ha => ?_⟩
  · have : x ≠ p := ne_of_none h rp
    rw [upd_ne this]; exact s x w h
  · rw [upd_ne (np (by rw [h]; exact fun z => nomatch z) hm)]; exact h
  · by_cases e : x = p
    · subst e; rw [upd_same]; exact fun z => nomatch z
    · rw [upd_ne e]; exact h
  · rw [Mu.set_ne (np h hm)]; exact hm
  · obtain ⟨hB, L, ns, i, cc, m, k, h1, h2, h3⟩ := b
    exact ⟨hB, L, ns, i, cc, m, k, by rw [upd_ne pB]; exact h1, h2, h3⟩
  · by_cases e' : a = p
    · subst e'
      rw [Mu.set_same] at ha; cases ha
      exact ⟨rp, pB.symm, c⟩
    · rw [Mu.set_ne e'] at ha
      obtain ⟨h1, h2, h3⟩ := o a e ha
      exact ⟨h1, h2, h3.mono (Same.refl R) (by rw [upd_ne e'])⟩
/-- an object of the store is frozen -/
theorem Nx.freeze (s : Same R H) (b : BagOk T.B R H) (o : StoOk T R H μ) {p : Addr} {u : HO} (hm : μ p ≠ none) (hu : H p = some u) : Nx T μ R H (μ.del p) (upd R p u) H := by
  obtain ⟨d, hd⟩ := Option.ne_none_iff_exists'.mp hm
  have rp : R p = none := (o p d hd).1
  have pB : T.B ≠ p := fun e => (o p d hd).2.1 e.symm
  have sm : Same R (upd R p u) := fun c w h => by rw [upd_ne (ne_of_none h rp)]; exact h
  refine ⟨sm, fun x w h => ?_, fun x w h hx hm => h, fun x h => h, fun x h hmx => ?_, ?_, fun a e ha => ?_⟩
  · by_cases e : x = p
    · subst e; rw [upd_same] at h; cases h; exact hu
    · rw [upd_ne e] at h; exact s x w h
  · have : x ≠ p := fun e => hm (by rw [← e]; exact hmx)
    exact ⟨by rw [upd_ne this], by rw [Mu.del_ne this]; exact hmx⟩
  · obtain ⟨hB, L, ns, i, cc, m, k, h1, h2, h3⟩ := b
    refine ⟨by rw [upd_ne pB]; exact hB, L, ns, i, cc, m, k, h1, ?_, h3⟩
    rw [upd_ne (ne_of_none h2 rp)]; exact h2
  · by_cases e' : a = p
    · subst e'; rw [Mu.del_same] at ha; cases ha
    · rw [Mu.del_ne e'] at ha
      obtain ⟨h1, h2, h3⟩ := o a e ha
      exact ⟨by rw [upd_ne e']; exact h1, h2, h3.mono sm rfl⟩
end
/-- the slots: what they hold, none: not known -/
structure Ok (T : Tb) (μ0 : Mu) (R0 H0 : Hp) (μ : Mu) (R H : Hp) (σ : L2.St) (ρ : List (Option D)) : Prop where
  len : σ.length = ρ.length
  sl : ∀ (i : Nat) (d : D), ρ[i]? = some (some d) → ∃ x, σ[i]? = some (some x) ∧ Rd T R x d
  ext : Nx T μ0 R0 H0 μ R H
section
variable {T : Tb} {μ0 μ μ' : Mu} {R0 H0 R H R' H' : Hp} {σ : L2.St} {ρ : List (Option D)}
theorem Ok.sub (o : Ok T μ0 R0 H0 μ R H σ ρ) : Same R H := o.ext.s
theorem Ok.bag (o : Ok T μ0 R0 H0 μ R H σ ρ) : BagOk T.B R H := o.ext.b
theorem Ok.sto (o : Ok T μ0 R0 H0 μ R H σ ρ) : StoOk T R H μ := o.ext.o
theorem Ok.nx (o : Ok T μ0 R0 H0 μ R H σ ρ) (x : Nx T μ R H μ' R' H') : Ok T μ0 R0 H0 μ' R' H' σ ρ :=
  ⟨o.len, fun i d h => let ⟨v, e, r⟩ := o.sl i d h; ⟨v, e, r.mono x.r⟩, o.ext.trans x⟩
theorem Ok.set (o : Ok T μ0 R0 H0 μ R H σ ρ) (i : Nat) {v : V} {d : D} (r : Rd T R v d) : Ok T μ0 R0 H0 μ R H (σ.set i (some v)) (ρ.set i (some d)) := by
  refine ⟨by simp [o.len], fun j e h => ?_, o.ext⟩
  by_cases c : i = j
  · subst c
    by_cases hl : i < ρ.length
    · rw [List.getElem?_set_self hl] at h
      cases h
      rw [List.getElem?_set_self (by rw [o.len]; exact hl)]
      exact ⟨v, rfl, r⟩
    · rw [List.getElem?_eq_none (by simpa using hl)] at h; cases h
  · rw [List.getElem?_set_ne c] at h ⊢
    exact o.sl j e h
theorem Ok.forget (o : Ok T μ0 R0 H0 μ R H σ ρ) (i : Nat) (v : Option V) : Ok T μ0 R0 H0 μ R H (σ.set i v) (ρ.set i none) := by
  refine ⟨by simp [o.len], fun j e h => ?_, o.ext⟩
  by_cases c : i = j
  · subst c
    by_cases hl : i < ρ.length
    · rw [List.getElem?_set_self hl] at h; cases h
    · rw [List.getElem?_eq_none (by simpa using hl)] at h; cases h
  · rw [List.getElem?_set_ne c] at h ⊢
    exact o.sl j e h
def wipeD (ρ : List (Option D)) : List Nat → List (Option D)
  | [] => ρ
  | v :: vs => (wipeD ρ vs).set v none
theorem Ok.wipe (o : Ok T μ0 R0 H0 μ R H σ ρ) : ∀ vs : List Nat, Ok T μ0 R0 H0 μ R H (wipe σ vs) (wipeD ρ vs)
  | [] => o
  | v :: vs => (Ok.wipe o vs).forget v none
end
end MP
set_option maxHeartbeats 4000000
/-! MP: the terms, what they mean over data and a store, how the text is held against them. -/
namespace MP
open PySem PySem.Spec PyProof.Rows L2

/-! ### data -/
/-- an object of the store, seen -/
def vw (μ : Mu) : D → D
  | .loc a => (μ a).getD (.loc a)
  | d => d
/-- an own instance of class c -/
def insP (c : Nat) : D → Prop
  | .ins c' _ => c' = c
  | _ => False
/-- is the value an own instance of class c? -/
def isC (c : Nat) : D → Bool
  | .ins c' _ => decide (c' = c)
  | _ => false
mutual
def eqD : D → D → Bool
  | .non, .non => true
  | .bl a, .bl b => a == b
  | .bl a, .int j => (if a then 1 else 0) == j
  | .int i, .bl b => i == (if b then 1 else 0)
  | .int i, .int j => i == j
  | .str x, .str y => x == y
  | .lst xs, .lst ys => eqDs xs ys
  | .tup xs, .tup ys => eqDs xs ys
  | _, _ => false
def eqDs : List D → List D → Bool
  | [], [] => true
  | x :: xs, y :: ys => eqD x y && eqDs xs ys
  | _, _ => false
end
mutual
/-- == is served -/
def layD : D → Bool
  | .non | .bl _ | .int _ => true
  | .str x => PySem.PyData.strOk x
  | .lst xs | .tup xs => layDs xs
  | _ => false
def layDs : List D → Bool
  | [] => true
  | x :: xs => layD x && layDs xs
end
mutual
def depD : D → Nat
  | .lst xs | .tup xs => depDs xs + 1
  | _ => 0
def depDs : List D → Nat
  | [] => 0
  | x :: xs => max (depD x) (depDs xs)
end
def truD : D → (Bool → Prop) → Prop
  | .non, Q => Q false
  | .bl b, Q => Q b
  | .int i, Q => Q (i != 0)
  | .str y, Q => y.length ≤ sizeLine ∧ Q ((y.length : Int) != 0)
  | .lst xs, Q => Q (!xs.isEmpty)
  | .tup xs, Q => Q (!xs.isEmpty)
  | .dct xs, Q => Q (!xs.isEmpty)
  | _, _ => False
/-- either of two, by a truth value -/
def iteP : Bool → Prop → Prop → Prop
  | true, A, _ => A
  | false, _, B => B
theorem iteP_true {A B : Prop} : iteP true A B = A := rfl
theorem iteP_false {A B : Prop} : iteP false A B = B := rfl
theorem iteP_of {c : Bool} {A B : Prop} (h1 : c = true → A) (h2 : c = false → B) : iteP c A B := by
  cases c with
  | true => exact h1 rfl
  | false => exact h2 rfl
theorem iteP_t {c : Bool} {A B : Prop} (h : iteP c A B) (e : c = true) : A := by subst e; exact h
theorem iteP_f {c : Bool} {A B : Prop} (h : iteP c A B) (e : c = false) : B := by subst e; exact h
inductive Bop where
  | add | sub | mul | fdiv | mod | pow
  deriving DecidableEq
inductive Cop where
  | eq | ne | lt | le | gt | ge | isN | notN | in_ | notIn
  deriving DecidableEq
inductive Ty where
  | int | bool | str | list | tuple | dict
  deriving DecidableEq
def Ty.name : Ty → String
  | .int => "int" | .bool => "bool" | .str => "str" | .list => "list" | .tuple => "tuple" | .dict => "dict"
def isiD : D → Ty → Bool
  | .int _, .int => true
  | .bl _, .bool => true
  | .bl _, .int => true
  | .str _, .str => true
  | .lst _, .list => true
  | .tup _, .tuple => true
  | .dct _, .dict => true
  | _, _ => false
def binD : Bop → D → D → (D → Prop) → Prop
  | .add, .int i, .int j, Q => Q (.int (i + j))
  | .add, .str x, .str y, Q => x.length + y.length ≤ sizeLine ∧ Q (.str (x ++ y))
  | .add, .tup xs, .tup ys, Q => xs.length + ys.length ≤ sizeLine ∧ Q (.tup (xs ++ ys))
  | .add, .lst xs, .lst ys, Q => xs.length + ys.length ≤ sizeLine ∧ Q (.lst (xs ++ ys))
  | .sub, .int i, .int j, Q => Q (.int (i - j))
  | .mul, .int i, .int j, Q => CMul i j ∧ Q (.int (i * j))
  | .mul, .lst xs, .int k, Q => -(2 ^ 63) ≤ k ∧ k < 2 ^ 63 ∧ xs.length * k.toNat ≤ sizeLine ∧ Q (.lst (List.replicate k.toNat xs).flatten)
  | .fdiv, .int i, .int j, Q => (0 < j ∧ j.natAbs.log2 < 9000) ∧ Q (.int (i / j))
  | .mod, .int i, .int j, Q => 0 < j ∧ Q (.int (i % j))
  | .pow, .int i, .int j, Q => CPow i j ∧ Q (.int (i ^ j.toNat))
  | _, _, _, _ => False
structure EqLay (x y : D) : Prop where
  lx : layD x = true
  ly : layD y = true
  dep : min (depD x) (depD y) ≤ 64
def isDT : D → D → Bool
  | .dct _, .tup _ => true
  | _, _ => false
def EqOk (x y : D) : Prop := EqLay x y ∨ isDT x y = true
/-- flat data: what `in` looks through -/
def flatD : D → Bool
  | .non | .bl _ | .int _ => true
  | .str _ => true
  | _ => false
def cmpD : Cop → D → D → (Bool → Prop) → Prop
  | .eq, x, y, Q => EqOk x y ∧ Q (eqD x y)
  | .ne, x, y, Q => EqLay x y ∧ Q (!eqD x y)
  | .lt, .int i, .int j, Q => Q (decide (i < j))
  | .le, .int i, .int j, Q => Q (decide (i ≤ j))
  | .gt, .int i, .int j, Q => Q (decide (j < i))
  | .ge, .int i, .int j, Q => Q (decide (j ≤ i))
  | .isN, x, .non, Q => Q (match x with | .non => true | _ => false)
  | .notN, x, .non, Q => Q (match x with | .non => false | _ => true)
  | .in_, x, .lst ys, Q => (flatD x = true ∧ ys.all flatD = true) ∧ Q (ys.any fun y => eqD x y)
  | .notIn, x, .lst ys, Q => (flatD x = true ∧ ys.all flatD = true) ∧ Q (!ys.any fun y => eqD x y)
  | .in_, x, .tup ys, Q => (flatD x = true ∧ ys.all flatD = true) ∧ Q (ys.any fun y => eqD x y)
  | .notIn, x, .tup ys, Q => (flatD x = true ∧ ys.all flatD = true) ∧ Q (!ys.any fun y => eqD x y)
  | .in_, .str ⟨#[c]⟩, .str z, Q => Q (decide (c ∈ z.cps.toList))
  | _, _, _, _ => False
/-- built-in functions and classes, called -/
inductive Bf where
  | len | all | any | tuple | list | int | abs | sum | max | min | sorted | str
  deriving DecidableEq
def Bf.name : Bf → Str
  | .len => "len" | .all => "all" | .any => "any" | .tuple => "tuple" | .list => "list" | .int => "int" | .abs => "abs" | .sum => "sum" | .max => "max" | .min => "min" | .sorted => "sorted" | .str => "str"
def flatT : D → Option Bool
  | .non => some false
  | .bl b => some b
  | .int i => some (i != 0)
  | _ => none
def flatTs : List D → Option (List Bool)
  | [] => some []
  | d :: ds => match flatT d, flatTs ds with | some b, some bs => some (b :: bs) | _, _ => none
def intsD : List D → Option (List Int)
  | [] => some []
  | .int i :: ds => (intsD ds).map (i :: ·)
  | _ :: _ => none
def signsD (x : Str) : List D := x.cps.toList.map fun c => .str ⟨#[c]⟩
def bD : Bf → List D → (D → Prop) → Prop
  | .len, [.lst xs], Q => Q (.int xs.length)
  | .len, [.tup xs], Q => Q (.int xs.length)
  | .len, [.str x], Q => x.length ≤ sizeLine ∧ Q (.int x.length)
  | .len, [.dct xs], Q => Q (.int xs.length)
  | .all, [.lst xs], Q => match flatTs xs with | some bs => Q (.bl (bs.all id)) | none => False
  | .any, [.lst xs], Q => match flatTs xs with | some bs => Q (.bl (bs.any id)) | none => False
  | .all, [.tup xs], Q => match flatTs xs with | some bs => Q (.bl (bs.all id)) | none => False
  | .any, [.tup xs], Q => match flatTs xs with | some bs => Q (.bl (bs.any id)) | none => False
  | .tuple, [.lst xs], Q => Q (.tup xs)
  | .tuple, [.tup xs], Q => Q (.tup xs)
  | .list, [.lst xs], Q => Q (.lst xs)
  | .list, [.tup xs], Q => Q (.lst xs)
  | .int, [.int i], Q => Q (.int i)
  | .abs, [.int i], Q => Q (.int (if i < 0 then -i else i))
  | .sum, [.lst xs], Q => match intsD xs with | some ns => Q (.int ns.sum) | none => False
  | .max, [.int i, .int j], Q => Q (.int (if j > i then j else i))
  | .min, [.int i, .int j], Q => Q (.int (if j < i then j else i))
  | .max, [.lst xs], Q => match intsD xs with | some ns => ns ≠ [] ∧ ∀ m, m ∈ ns → (∀ y, y ∈ ns → y ≤ m) → Q (.int m) | none => False
  | .min, [.lst xs], Q => match intsD xs with | some ns => ns ≠ [] ∧ ∀ m, m ∈ ns → (∀ y, y ∈ ns → m ≤ y) → Q (.int m) | none => False
  | .sorted, [.lst xs], Q => match intsD xs with | some ns => ∀ ns' : List Int, ns'.Perm ns → ns'.Pairwise (· ≤ ·) → Q (.lst (ns'.map .int)) | none => False
  | .str, [.int i], Q => i.natAbs.log2 < 1920 ∧ Q (.str (toString i))
  | _, _, _ => False
def subD : D → D → (D → Prop) → Prop
  | .lst xs, .int i, Q => match atI xs i with | some d => Q d | none => False
  | .tup xs, .int i, Q => match atI xs i with | some d => Q d | none => False
  | .str z, .int i, Q => z.length ≤ sizeLine ∧ match atI z.cps.toList i with | some c => Q (.str ⟨#[c]⟩) | none => False
  | _, _, _ => False
def cutD {α : Type} (xs : List α) (lo hi : Option Int) : List α := (xs.drop (HT.sIx xs.length 0 lo)).take (HT.sIx xs.length xs.length hi - HT.sIx xs.length 0 lo)
def slD : D → Option Int → Option Int → (D → Prop) → Prop
  | .lst xs, lo, hi, Q => Q (.lst (cutD xs lo hi))
  | .tup xs, lo, hi, Q => Q (.tup (cutD xs lo hi))
  | .str z, lo, hi, Q => z.length ≤ sizeLine ∧ Q (.str (cutS z lo hi))
  | _, _, _, _ => False
/-- methods of built-in classes that change nothing -/
inductive Bm where
  | join | split
  deriving DecidableEq
def strsD : List D → Option (List Str)
  | [] => some []
  | .str i :: ds => (strsD ds).map (i :: ·)
  | _ :: _ => none
def bmD : Bm → D → List D → (D → Prop) → Prop
  | .join, .str a, [.lst xs], Q => match strsD xs with | some ys => (ys.map (·.length)).sum + ys.length * a.length ≤ 16777216 ∧ Q (.str (Txt.join a ys)) | none => False
  | .split, .str a, [.str b], Q => ((b.length == 0) = false ∧ a.length + 2 ≤ sizeLine) ∧ Q (.lst ((Txt.split a b).map .str))
  | _, _, _, _ => False
def Bm.name : Bm → Str
  | .join => "join" | .split => "split"
/-- methods of lists of the store -/
inductive Bs where
  | append | pop
  deriving DecidableEq
def Bs.name : Bs → Str
  | .append => "append" | .pop => "pop"

/-! ### terms -/
/-- constants -/
inductive Dc where
  | non | bl (b : Bool) | int (i : Int) | str (x : Str) | strs (xs : List Str)
  deriving DecidableEq
def Dc.d : Dc → D
  | .non => .non | .bl b => .bl b | .int i => .int i | .str x => .str x | .strs xs => .tup (xs.map .str)
/-- where a parameter's value comes from: the i-th positional one, the i-th keyword's, what is left from the i-th on, the default -/
inductive Pl where
  | pos (i : Nat) | kw (i : Nat) | rest (i : Nat) | dfl (d : Dc)
  deriving DecidableEq
inductive Tg where
  | one (i : Nat) | tup (is : List Nat)
  deriving DecidableEq
mutual
inductive CE where
  | var (i : Nat) | int (n : Int) | str (x : Str) | bl (b : Bool) | non
  | gc (x : Str) (d : Dc)
  | bin (op : Bop) (a b : CE) | neg (a : CE)
  | cmp (op : Cop) (a b : CE) | chain (o1 o2 : Cop) (a b c : CE)
  | not (a : CE) | bop (isAnd : Bool) (a b : CE) | ife (t a b : CE)
  | tup (es : CEs) | lst (own : Bool) (es : CEs) | dct1 (k v : CE)
  | call (f : Nat) (es : CEs) (ks : List Str) (kes : CEs) (pl : List Pl)
  | mk (c f : Nat) (es : CEs) (ks : List Str) (kes : CEs) (pl : List Pl)
  | meth (c m f : Nat) (e : CE) (es : CEs) (ks : List Str) (kes : CEs) (pl : List Pl)
  | attr (e : CE) (f : Nat)
  | bcall (b : Bf) (es : CEs)
  | blist (e : CE)
  | bmeth (m : Bm) (e : CE) (es : CEs)
  | smeth (m : Bs) (e : CE) (es : CEs)
  | isi (a : CE) (t : Ty) | isis (a : CE) (ts : List Ty)
  | isc (a : CE) (c : Nat)
  | sub (a i : CE) | slice (a : CE) (lo hi : CO)
  | lc (tg : Tg) (it : CI) (cond : CO) (elt : CE) (own : List (Str × Nat))
  | opb (op : Bop) (c m f : Nat) (a b : CE)
  | ope (ne : Bool) (c m f : Nat) (a b : CE)
  | opc (c m f : Nat) (a : CE) (es : CEs) (pl : List Pl)
  | fst (es : CEs)
  | frz (e : CE)
inductive CEs where
  | nil | cons (e : CE) (es : CEs) | star (e : CE) (es : CEs)
inductive CO where
  | none | some (e : CE)
/-- what is walked -/
inductive CI where
  | seq (a : CE) | rng1 (a : CE) | rng2 (a b : CE) | zip (a b : CE) | enum (a : CE)
end
def CEs.len : CEs → Nat
  | .nil => 0
  | .cons _ es => es.len + 1
  | .star _ es => es.len + 1
def CEs.plain : CEs → Bool
  | .nil => true
  | .cons _ es => es.plain
  | .star _ _ => false
/-- the values that are written ahead of a star -/
def CEs.npl : CEs → Nat
  | .nil => 0
  | .cons _ es => es.npl + 1
  | .star _ _ => 0
mutual
inductive CS where
  | set (i : Nat) (e : CE) | setT (is : List Nat) (e : CE) | par (i j : Nat) (a b : CE)
  | attr (o : CE) (f : Nat) (e : CE)
  | sub (o i e : CE)
  | expr (e : CE) | ret (e : CE) | retN | pass | brk | cont
  | ite (t : CE) (a b : CSs)
  | for_ (tg : Tg) (it : CI) (body : CSs)
  | never
inductive CSs where
  | nil | cons (s : CS) (ss : CSs)
end

abbrev Sl := Option D
abbrev Po := D → Mu → Prop
/-- what a def promises: the bound arguments, the store, what is wanted of an exception, of the end -/
abbrev Prm := List D → Mu → Po → Po → Prop
structure Sg where
  fn : Nat → Option Prm
  ex : Po
  nc : Nat
/-- a value whose type is told -/
def okT (nc : Nat) : D → Bool
  | .ins c _ => decide (c < nc)
  | .exc _ _ | .loc _ | .bag => false
  | _ => true
def Sg.noex (Γ : Sg) : Sg := { Γ with ex := fun _ _ => False }

def setAll (ρ : List Sl) : List Nat → List D → List Sl
  | i :: is, d :: ds => setAll (ρ.set i (some d)) is ds
  | _, _ => ρ
def bindT : Tg → D → List Sl → (List Sl → Prop) → Prop
  | .one i, d, ρ, Q => Q (ρ.set i (some d))
  | .tup is, .tup ds, ρ, Q => is.length = ds.length ∧ Q (setAll ρ is ds)
  | _, _, _, _ => False
def zipD (xs ys : List D) : List D := List.zipWith (fun x y => D.tup [x, y]) xs ys
def enumD (xs : List D) : List D := (List.range xs.length).zipWith (fun i x => D.tup [.int (i : Nat), x]) xs
def rngD (lo : Int) (n : Nat) : List D := (List.range n).map fun i => .int (lo + (i : Nat))
def seqD : D → Option (List D)
  | .lst xs => some xs
  | .tup xs => some xs
  | _ => none
def seqP : D → (List D → Prop) → Prop
  | .lst xs, Q => Q xs
  | .tup xs, Q => Q xs
  | _, _ => False
/-- the arguments by a plan -/
def pick (ds zs : List D) : List Pl → (List D → Prop) → Prop
  | [], Q => Q []
  | .pos i :: r, Q => match ds[i]? with | some d => pick ds zs r fun l => Q (d :: l) | none => False
  | .kw i :: r, Q => match zs[i]? with | some d => pick ds zs r fun l => Q (d :: l) | none => False
  | .rest i :: r, Q => (ds.drop i).length ≤ sizeLine ∧ pick ds zs r fun l => Q (.tup (ds.drop i) :: l)
  | .dfl d :: r, Q => pick ds zs r fun l => Q (d.d :: l)
/-- a comprehension over xs, what is made so far acc -/
def lcD (bind : D → (List Sl → Prop) → Prop) (cond : List Sl → Mu → (Bool → Mu → Prop) → Prop) (elt : List Sl → Mu → Po → Prop) : List D → List D → Mu → (List D → Mu → Prop) → Prop
  | [], acc, μ, Q => Q acc μ
  | x :: xs, acc, μ, Q => bind x fun ρ1 => cond ρ1 μ fun b μ1 => iteP b (elt ρ1 μ1 fun y μ2 => lcD bind cond elt xs (acc ++ [y]) μ2 Q) (lcD bind cond elt xs acc μ1 Q)
/-- what is walked is frozen, or an object of the store that stays -/
abbrev Wk := List D × (Mu → Prop)
def lenOb : CI → List D → Prop
  | .rng1 _, xs => xs.length ≤ sizeLine
  | .rng2 _ _, xs => xs.length ≤ sizeLine
  | _, _ => True
def isStrD : D → Prop
  | .str _ => True
  | _ => False
def isLstO : Option D → Prop
  | some (.lst _) => True
  | _ => False
/-- a method of the store's lists -/
def bsD : Bs → Addr → List D → List D → Mu → Po → Prop
  | .append, a, xs, [d], μ, Q => xs.length < sizeLine ∧ Q .non (μ.set a (.lst (xs ++ [d])))
  | .pop, a, xs, [.int i], μ, Q => (-(2 ^ 63) ≤ i ∧ i < 2 ^ 63) ∧ match ixN xs.length i with | some j => (match xs[j]? with | some d => Q d (μ.set a (.lst (xs.eraseIdx j))) | none => False) | none => False
  | _, _, _, _, _, _ => False
mutual
def wE (Γ : Sg) : CE → List Sl → Mu → Po → Prop
  | .var i, ρ, μ, Q => match ρ[i]? with | some (some d) => Q d μ | _ => False
  | .int n, _, μ, Q => Q (.int n) μ
  | .str x, _, μ, Q => Q (.str x) μ
  | .bl b, _, μ, Q => Q (.bl b) μ
  | .non, _, μ, Q => Q .non μ
  | .gc _ d, _, μ, Q => Q d.d μ
  | .bin op a b, ρ, μ, Q => wE Γ a ρ μ fun x μ1 => wE Γ b ρ μ1 fun y μ2 => binD op (vw μ2 x) (vw μ2 y) fun d => Q d μ2
  | .neg a, ρ, μ, Q => wE Γ a ρ μ fun x μ1 => match x with | .int i => Q (.int (-i)) μ1 | _ => False
  | .cmp op a b, ρ, μ, Q => wE Γ a ρ μ fun x μ1 => wE Γ b ρ μ1 fun y μ2 => cmpD op (vw μ2 x) (vw μ2 y) fun k => Q (.bl k) μ2
  | .chain o1 o2 a b c, ρ, μ, Q => wE Γ a ρ μ fun x μ1 => wE Γ b ρ μ1 fun y μ2 => cmpD o1 (vw μ2 x) (vw μ2 y) fun k => iteP k (wE Γ c ρ μ2 fun z μ3 => cmpD o2 (vw μ3 y) (vw μ3 z) fun k' => Q (.bl k') μ3) (Q (.bl false) μ2)
  | .not a, ρ, μ, Q => wE Γ a ρ μ fun x μ1 => truD (vw μ1 x) fun c => Q (.bl (!c)) μ1
  | .bop isAnd a b, ρ, μ, Q => wE Γ a ρ μ fun x μ1 => truD (vw μ1 x) fun c => iteP (c == isAnd) (wE Γ b ρ μ1 Q) (Q x μ1)
  | .ife t a b, ρ, μ, Q => wE Γ t ρ μ fun x μ1 => truD (vw μ1 x) fun c => iteP c (wE Γ a ρ μ1 Q) (wE Γ b ρ μ1 Q)
  | .tup es, ρ, μ, Q => wEs Γ es ρ μ fun ds μ1 => Q (.tup ds) μ1
  | .lst own es, ρ, μ, Q => wEs Γ es ρ μ fun ds μ1 => if own then ∀ a, μ1 a = none → Q (.loc a) (μ1.set a (.lst ds)) else Q (.lst ds) μ1
  | .dct1 k v, ρ, μ, Q => wE Γ k ρ μ fun x μ1 => wE Γ v ρ μ1 fun y μ2 => match x with | .int i => Q (.dct [(.inl i, y)]) μ2 | .str s => Q (.dct [(.inr s, y)]) μ2 | _ => False
  | .call f es _ kes pl, ρ, μ, Q => match Γ.fn f with
    | some p => wEs Γ es ρ μ fun ds μ1 => wEs Γ kes ρ μ1 fun zs μ2 => pick ds zs pl fun l => p l μ2 Γ.ex Q
    | none => False
  | .mk c f es _ kes pl, ρ, μ, Q => match Γ.fn f with
    | some p => wEs Γ es ρ μ fun ds μ1 => wEs Γ kes ρ μ1 fun zs μ2 => ∀ a, μ2 a = none → pick (.loc a :: ds) zs pl fun l => p l (μ2.set a (.ins c [])) Γ.ex fun v μ3 => v = .non ∧ Q (.loc a) μ3
    | none => False
  | .meth c m f e es _ kes pl, ρ, μ, Q => match Γ.fn f with
    | some p => wE Γ e ρ μ fun x μ0 => match vw μ0 x with
      | .ins c' fs => (c' = c ∧ fs.lookup m = none) ∧ wEs Γ es ρ μ0 fun ds μ1 => wEs Γ kes ρ μ1 fun zs μ2 => pick (x :: ds) zs pl fun l => p l μ2 Γ.ex Q
      | _ => False
    | none => False
  | .attr e f, ρ, μ, Q => wE Γ e ρ μ fun x μ1 => match vw μ1 x with | .ins c fs => c < Γ.nc ∧ (match fs.lookup f with | some d => Q d μ1 | none => False) | _ => False
  | .bcall b es, ρ, μ, Q => wEs Γ es ρ μ fun ds μ1 => bD b (ds.map (vw μ1)) fun d => Q d μ1
  | .blist e, ρ, μ, Q => wE Γ e ρ μ fun x μ1 => match vw μ1 x with
    | .lst ds => ∀ a, μ1 a = none → Q (.loc a) (μ1.set a (.lst ds))
    | .tup ds => ∀ a, μ1 a = none → Q (.loc a) (μ1.set a (.lst ds))
    | _ => False
  | .bmeth m e es, ρ, μ, Q => wE Γ e ρ μ fun x μ0 => isStrD x ∧ wEs Γ es ρ μ0 fun ds μ1 => bmD m x (ds.map (vw μ1)) fun d => Q d μ1
  | .smeth m e es, ρ, μ, Q => wE Γ e ρ μ fun x μ0 => match x with
    | .loc a => isLstO (μ0 a) ∧ wEs Γ es ρ μ0 fun ds μ1 => match μ1 a with
      | some (.lst xs) => bsD m a xs ds μ1 Q
      | _ => False
    | _ => False
  | .isi a t, ρ, μ, Q => wE Γ a ρ μ fun d μ1 => okT Γ.nc (vw μ1 d) = true ∧ Q (.bl (isiD (vw μ1 d) t)) μ1
  | .isis a ts, ρ, μ, Q => wE Γ a ρ μ fun d μ1 => okT Γ.nc (vw μ1 d) = true ∧ Q (.bl (ts.any fun t => isiD (vw μ1 d) t)) μ1
  | .isc a c, ρ, μ, Q => wE Γ a ρ μ fun d μ1 => okT Γ.nc (vw μ1 d) = true ∧ Q (.bl (isC c (vw μ1 d))) μ1
  | .sub a i, ρ, μ, Q => wE Γ a ρ μ fun x μ1 => wE Γ i ρ μ1 fun y μ2 => subD (vw μ2 x) y fun d => Q d μ2
  | .slice a lo hi, ρ, μ, Q => wE Γ a ρ μ fun x μ1 => wO Γ lo ρ μ1 fun l μ2 => wO Γ hi ρ μ2 fun h μ3 => slD (vw μ3 x) l h fun d => Q d μ3
  | .lc tg it cond elt own, ρ, μ, Q => wI Γ it ρ μ fun xs μ1 => lenOb it xs ∧ lcD (fun d => bindT tg d (wipeD ρ (own.map (·.2)))) (fun ρ1 μ2 => wC Γ.noex cond ρ1 μ2) (fun ρ1 μ2 => wE Γ.noex elt ρ1 μ2) xs [] μ1 fun ys μ2 => Q (.lst ys) μ2
  | .opb _ c _ f a b, ρ, μ, Q => match Γ.fn f with
    | some p => wE Γ a ρ μ fun x μ1 => wE Γ b ρ μ1 fun y μ2 => (insP c (vw μ2 x) ∧ insP c (vw μ2 y)) ∧ p [x, y] μ2 Γ.ex Q
    | none => False
  | .ope _ c _ f a b, ρ, μ, Q => match Γ.fn f with
    | some p => wE Γ a ρ μ fun x μ1 => wE Γ b ρ μ1 fun y μ2 => (insP c (vw μ2 x) ∧ insP c (vw μ2 y)) ∧ p [x, y] μ2 Γ.ex Q
    | none => False
  | .opc c _ f a es pl, ρ, μ, Q => match Γ.fn f with
    | some p => wE Γ a ρ μ fun x μ1 => insP c (vw μ1 x) ∧ wEs Γ es ρ μ1 fun ds μ2 => insP c (vw μ2 x) ∧ pick (x :: ds) [] pl fun l => p l μ2 Γ.ex Q
    | none => False
  | .fst es, ρ, μ, Q => wF Γ es ρ μ Str.empty fun s μ1 => Q (.str s) μ1
  | .frz e, ρ, μ, Q => wE Γ e ρ μ fun x μ1 => match x with
    | .loc a => (match μ1 a with | some d => Q d (μ1.del a) | none => False)
    | d => Q d μ1
def wEs (Γ : Sg) : CEs → List Sl → Mu → (List D → Mu → Prop) → Prop
  | .nil, _, μ, Q => Q [] μ
  | .cons e es, ρ, μ, Q => wE Γ e ρ μ fun d μ1 => wEs Γ es ρ μ1 fun ds μ2 => Q (d :: ds) μ2
  | .star e es, ρ, μ, Q => wE Γ e ρ μ fun d μ1 => seqP (vw μ1 d) fun xs => wEs Γ es ρ μ1 fun ds μ2 => Q (xs ++ ds) μ2
/-- the parts of an f-string -/
def wF (Γ : Sg) : CEs → List Sl → Mu → Str → (Str → Mu → Prop) → Prop
  | .nil, _, μ, acc, Q => Q acc μ
  | .cons e es, ρ, μ, acc, Q => wE Γ e ρ μ fun d μ1 => match d with
    | .str x => (x.length ≤ sizeLine ∧ (acc ++ x).length ≤ sizeLine) ∧ wF Γ es ρ μ1 (acc ++ x) Q
    | .int i => (i.natAbs.log2 < 1920 ∧ (acc ++ (toString i : Str)).length ≤ sizeLine) ∧ wF Γ es ρ μ1 (acc ++ (toString i : Str)) Q
    | _ => False
  | .star _ _, _, _, _, _ => False
/-- a part of a slice -/
def wO (Γ : Sg) : CO → List Sl → Mu → (Option Int → Mu → Prop) → Prop
  | .none, _, μ, Q => Q none μ
  | .some e, ρ, μ, Q => wE Γ e ρ μ fun d μ1 => match d with | .int i => Q (some i) μ1 | _ => False
/-- a comprehension's test -/
def wC (Γ : Sg) : CO → List Sl → Mu → (Bool → Mu → Prop) → Prop
  | .none, _, μ, Q => Q true μ
  | .some e, ρ, μ, Q => wE Γ e ρ μ fun d μ1 => truD (vw μ1 d) fun b => Q b μ1
def wI (Γ : Sg) : CI → List Sl → Mu → (List D → Mu → Prop) → Prop
  | .seq a, ρ, μ, Q => wE Γ a ρ μ fun d μ1 => match d with | .lst xs => Q xs μ1 | .tup xs => Q xs μ1 | .str x => x.length ≤ 1000 ∧ Q (signsD x) μ1 | _ => False
  | .rng1 a, ρ, μ, Q => wE Γ a ρ μ fun d μ1 => match d with | .int j => (-(2 ^ 62) ≤ j ∧ j < 2 ^ 62) ∧ Q (rngD 0 j.toNat) μ1 | _ => False
  | .rng2 a b, ρ, μ, Q => wE Γ a ρ μ fun d μ1 => wE Γ b ρ μ1 fun e μ2 => match d, e with | .int i, .int j => (-(2 ^ 62) ≤ i ∧ i < 2 ^ 62 ∧ -(2 ^ 62) ≤ j ∧ j < 2 ^ 62) ∧ Q (rngD i (j - i).toNat) μ2 | _, _ => False
  | .zip a b, ρ, μ, Q => wE Γ a ρ μ fun d μ1 => wE Γ b ρ μ1 fun e μ2 => match d, e with | .lst xs, .lst ys => Q (zipD xs ys) μ2 | .tup xs, .tup ys => Q (zipD xs ys) μ2 | _, _ => False
  | .enum a, ρ, μ, Q => wE Γ a ρ μ fun d μ1 => match d with | .lst xs => Q (enumD xs) μ1 | .tup xs => Q (enumD xs) μ1 | _ => False
end

/-- what is wanted behind a statement -/
structure Kt where
  nx : List Sl → Mu → Prop
  rt : Po
  bk : List Sl → Mu → Prop := fun _ _ => False
  ct : List Sl → Mu → Prop := fun _ _ => False
def forD (bind : D → List Sl → (List Sl → Prop) → Prop) (body : Kt → List Sl → Mu → Prop) (k : Kt) : List D → List Sl → Mu → Prop
  | [], ρ, μ => k.nx ρ μ
  | x :: xs, ρ, μ => bind x ρ fun ρ1 => body { nx := forD bind body k xs, rt := k.rt, bk := k.nx, ct := forD bind body k xs } ρ1 μ
/-- o.f = d -/
def setD (nc f : Nat) (x d : D) (μ : Mu) (Q : Mu → Prop) : Prop := match x with
  | .loc a => (match μ a with | some (.ins c fs) => fs.length < 1000 ∧ c < nc ∧ Q (μ.set a (.ins c (putD f d fs))) | _ => False)
  | _ => False
/-- o[i] = d, a list of the store -/
def subSetD (x i d : D) (μ : Mu) (Q : Mu → Prop) : Prop := match x, i with
  | .loc a, .int i => (match μ a with
    | some (.lst xs) => (match ixN xs.length i with | some j => Q (μ.set a (.lst (xs.set j d))) | none => False)
    | _ => False)
  | _, _ => False
mutual
def wS (Γ : Sg) : CS → Kt → List Sl → Mu → Prop
  | .set i e, k, ρ, μ => wE Γ e ρ μ fun d μ1 => k.nx (ρ.set i (some d)) μ1
  | .setT is e, k, ρ, μ => wE Γ e ρ μ fun d μ1 => match d with | .tup ds => is.length = ds.length ∧ k.nx (setAll ρ is ds) μ1 | _ => False
  | .par i j a b, k, ρ, μ => wE Γ a ρ μ fun x μ1 => wE Γ b ρ μ1 fun y μ2 => k.nx ((ρ.set i (some x)).set j (some y)) μ2
  | .attr o f e, k, ρ, μ => wE Γ e ρ μ fun d μ1 => wE Γ o ρ μ1 fun x μ2 => setD Γ.nc f x d μ2 fun μ3 => k.nx ρ μ3
  | .sub o i e, k, ρ, μ => wE Γ e ρ μ fun d μ1 => wE Γ o ρ μ1 fun x μ2 => wE Γ i ρ μ2 fun y μ3 => subSetD x y d μ3 fun μ4 => k.nx ρ μ4
  | .expr e, k, ρ, μ => wE Γ e ρ μ fun _ μ1 => k.nx ρ μ1
  | .ret e, k, ρ, μ => wE Γ e ρ μ fun d μ1 => k.rt d μ1
  | .retN, k, _, μ => k.rt .non μ
  | .pass, k, ρ, μ => k.nx ρ μ
  | .brk, k, ρ, μ => k.bk ρ μ
  | .cont, k, ρ, μ => k.ct ρ μ
  | .ite t a b, k, ρ, μ => wE Γ t ρ μ fun x μ1 => truD (vw μ1 x) fun c => iteP c (wSs Γ a k ρ μ1) (wSs Γ b k ρ μ1)
  | .for_ tg it body, k, ρ, μ => wI Γ it ρ μ fun xs μ1 => forD (bindT tg) (wSs Γ body) k xs ρ μ1
  | .never, _, _, _ => False
def wSs (Γ : Sg) : CSs → Kt → List Sl → Mu → Prop
  | .nil, k, ρ, μ => k.nx ρ μ
  | .cons s ss, k, ρ, μ => wS Γ s { k with nx := fun ρ' μ' => wSs Γ ss k ρ' μ' } ρ μ
end
/-- the slots at the entry -/
def start0 (n : Nat) (ds : List D) : List Sl := ds.map some ++ List.replicate (n - ds.length) none
/-- what a def's body gives for the arguments ds -/
def wB (Γ : Sg) (n : Nat) (body : CSs) (ds : List D) (μ : Mu) (ex W : Po) : Prop := wSs { Γ with ex := ex } body { nx := fun _ μ' => W .non μ', rt := W } (start0 n ds) μ
end MP
set_option maxHeartbeats 4000000
/-! MP: how a call's arguments come to the parameters. -/
namespace MP
open PySem PySem.Spec PyProof.Rows L2
theorem lk_app {β : Type} (x : Str) : ∀ (l m : List (Str × β)), (l ++ m).lookup x = (l.lookup x <|> m.lookup x)
  | [], m => by cases h : m.lookup x <;> simp [h]
  | (y, v) :: l, m => by
    by_cases e : x = y
    · subst e; simp [List.lookup]
    · have e' : (x == y) = false := by simpa using e
      simp only [List.cons_append, List.lookup, e']
      exact lk_app x l m
theorem lk_one {β : Type} (x y : Str) (v : β) : [(y, v)].lookup x = if x = y then some v else none := by
  by_cases e : x = y
  · subst e; simp [List.lookup]
  · have e' : (x == y) = false := by simpa using e
    simp [List.lookup, e', e]
theorem lk_zip_none {β : Type} {x : Str} : ∀ {ps : List Str} {vs : List β}, x ∉ ps.take vs.length → (ps.zip vs).lookup x = none
  | [], _, _ => by simp
  | _ :: _, [], _ => by simp
  | p :: ps, v :: vs, h => by
    simp only [List.length_cons, List.take_succ_cons, List.mem_cons, not_or] at h
    have e' : (x == p) = false := by simpa using h.1
    simp only [List.zip_cons_cons, List.lookup, e']
    exact lk_zip_none h.2
theorem lk_none_of {β : Type} {x : Str} : ∀ {l : List (Str × β)}, x ∉ l.map (·.1) → l.lookup x = none
  | [], _ => rfl
  | (y, v) :: l, h => by
    simp only [List.map_cons, List.mem_cons, not_or] at h
    have e' : (x == y) = false := by simpa using h.1
    simp only [List.lookup, e']
    exact lk_none_of h.2
/-- a parameter's value -/
def fval (P : List Str) (us : List Value) (kw : List (Str × Value)) (its : List Value) (kd : Str → Option Value) (x : Str) : Option Value :=
  ((P.zip us ++ kw).lookup x <|> ((P.drop (P.length - its.length)).zip its).lookup x) <|> kd x
structure BindH (M : Model) (s : Shared) (params : Arguments) (P KO : List Str) (dV kV : Value) (us : List Value) (kw : List (Str × Value)) (its : List Value) (kd : Str → Option Value) (vals : List Value) : Prop where
  h1 : params.posonlyargs = []
  h2 : params.kwarg = none
  hP : params.args.map (·.arg) = P
  hK : params.kwonlyargs.map (·.arg) = KO
  nd : (P ++ KO).Nodup
  kin : ∀ k ∈ kw.map (·.1), k ∈ P ∨ k ∈ KO
  knd : (kw.map (·.1)).Nodup
  knew : ∀ k ∈ kw.map (·.1), k ∉ P.take us.length
  len : us.length ≤ P.length ∨ params.vararg.isSome = true
  hD : ∃ o : Option (Array Value), PySem.W.Looks M s.heap (seqItems? dV) o ∧ (o.getD #[]).toList = its
  dlen : its.length ≤ P.length
  miss : ∀ x ∈ P.take (P.length - its.length), ((P.zip us ++ kw).lookup x).isSome = true
  kdo : ∀ x ∈ KO, ((P.zip us ++ kw).lookup x).isSome = true ∨ ∃ (a : Addr) (v : Value), kV = .ref a ∧ PySem.W.Looks M s.heap (nsGet a x) (some v) ∧ kd x = some v
  kdp : ∀ x, x ∉ KO → kd x = none
  vlen : vals.length = (P ++ KO).length
  vals : ∀ (i : Nat) (x : Str), (P ++ KO)[i]? = some x → fval P us kw its kd x = vals[i]?
theorem fm_zip {f : Str → Option Value} : ∀ {xs : List Str} {vs : List Value}, vs.length = xs.length → (∀ (i : Nat) (x : Str), xs[i]? = some x → f x = vs[i]?) → xs.filterMap (fun n => (f n).map (n, ·)) = xs.zip vs
  | [], [], _, _ => rfl
  | [], _ :: _, h, _ => by simp at h
  | _ :: _, [], h, _ => by simp at h
  | x :: xs, v :: vs, h, hv => by
    have e := hv 0 x rfl
    simp only [List.getElem?_cons_zero] at e
    rw [List.filterMap_cons_some (b := (x, v)) (by rw [e]; rfl), List.zip_cons_cons, fm_zip (by simpa using h) fun i y hy => by simpa using hv (i + 1) y (by simpa using hy)]
/-- THE RULE of binding -/
theorem bind_run {M : Model} {A : Around} {E : Value → Shared → Prop} {s : Shared} {name qual : Str} {params : Arguments} {body : List Stmt} {scope : Scope} {dV kV doc pm cdv ct : Value} {an : Option Addr} {P KO : List Str} {us : List Value} {kw : List (Str × Value)} {its : List Value} {kd : Str → Option Value} {vals : List Value} {Q : List (Str × Value) → Shared → Prop}
    (b : BindH M s params P KO dV kV us kw its kd vals)
    (q0 : params.vararg = none → Q ((P ++ KO).zip vals) s) (q1 : ∀ a, params.vararg = some a → wpAny M A (newTuple (us.drop P.length)) (fun t s' => Q ((P ++ KO).zip vals ++ [(a.arg, t)]) s') E s) :
    wpAny M A (bindArgs (PySem.W.fnOf name qual params body scope dV kV doc pm an cdv ct) ⟨us, kw⟩) Q E s := by
  obtain ⟨h1, h2, hP, hK, nd, kin, knd, knew, len, ⟨o, hD, ho⟩, dlen, miss, kdo, kdp, vlen, hv⟩ := b
  unfold bindArgs
  dsimp only [PySem.W.fnOf]
  rw [h1, h2, hP, hK]
  have e0 : (List.map (fun x : Arg => x.arg) ([] : List Arg)) = [] := rfl
  simp only [e0, List.nil_append]
  refine wpAny_bind (wpAny_forIn_list _ (fun rest b s' => s' = s ∧ ∃ pre, kw = pre ++ rest ∧ b = (P.zip us ++ pre, [])) _ ?_ ?_ kw _ ⟨rfl, [], rfl, by simp⟩)
  · rintro ⟨k, v⟩ rest b s' ⟨es, pre, e, rfl⟩
    subst s'
    have hk : k ∈ kw.map (·.1) := by rw [e]; simp
    have hin : (P.contains k || KO.contains k) = true := by
      rcases kin k hk with h | h <;> simp [h]
    have hno : ((P.zip us ++ pre).lookup k) = none := by
      rw [lk_app, lk_zip_none (knew k hk)]
      have : k ∉ pre.map (·.1) := by
        rw [e, List.map_append, List.map_cons] at knd
        intro hm
        exact (List.nodup_append.mp knd).2.2 k hm k List.mem_cons_self rfl
      rw [lk_none_of this]; rfl
    dsimp only
    rw [if_pos hin, hno]
    exact wpAny_pure ⟨rfl, pre ++ [(k, v)], by simp [e], by simp⟩
  · rintro b s' ⟨es, pre, e, rfl⟩
    subst s'
    have e' : kw = pre := by simpa using e
    subst e'
    refine wpAny_bind (hD.here ?_)
    rw [ho]
    have hl : ¬ ((decide (us.length > P.length) && params.vararg.isNone) = true) := by
      rcases len with h | h
      · simp [Nat.not_lt.mpr h]
      · cases hz : params.vararg with
        | none => rw [hz] at h; cases h
        | some a => simp
    rw [if_neg hl]
    have dd : its.drop (its.length - P.length) = its := by rw [Nat.sub_eq_zero_of_le dlen]; rfl
    rw [dd]
    have hm : ((P.take (P.length - its.length)).filter fun n => (List.lookup n (P.zip us ++ kw)).isNone) = [] := by
      rw [List.filter_eq_nil_iff]
      intro x hx
      have := miss x hx
      cases hz : List.lookup x (P.zip us ++ kw) with
      | none => rw [hz] at this; cases this
      | some v => simp
    rw [hm]
    rw [if_neg (by simp)]
    refine wpAny_bind (wpAny_forIn_list _ (fun rest b s' => s' = s ∧ ∃ pre, (P.drop (P.length - its.length)).zip its = pre ++ rest ∧ ∀ x, b.lookup x = ((P.zip us ++ kw).lookup x <|> pre.lookup x)) _ ?_ ?_ _ _ ⟨rfl, [], rfl, fun x => by cases hz : List.lookup x (P.zip us ++ kw) <;> simp [hz]⟩)
    · rintro ⟨k, v⟩ rest b s' ⟨es, pre, e, hb⟩
      subst s'
      dsimp only
      have hk : k ∉ pre.map (·.1) := by
        have hn : (((P.drop (P.length - its.length)).zip its).map (·.1)).Nodup := by
          have hnP : P.Nodup := (List.nodup_append.mp nd).1
          rw [List.map_fst_zip (by rw [List.length_drop]; omega)]
          exact hnP.sublist (List.drop_sublist _ _)
        rw [e, List.map_append, List.map_cons] at hn
        intro hm
        exact (List.nodup_append.mp hn).2.2 k hm k List.mem_cons_self rfl
      cases hz : List.lookup k b with
      | none =>
        rw [if_pos (by rfl : (Option.isNone (none : Option Value)) = true)]
        refine wpAny_pure ⟨rfl, pre ++ [(k, v)], by simp [e], fun x => ?_⟩
        rw [lk_app, lk_app x pre, hb x, lk_one]
        by_cases c : x = k
        · subst c
          rw [hb x] at hz
          rw [if_pos rfl]
          cases h1 : List.lookup x (P.zip us ++ kw) with
          | some w => rw [h1] at hz; simp at hz
          | none => cases h2 : List.lookup x pre <;> simp
        · rw [if_neg c]
          cases h1 : List.lookup x (P.zip us ++ kw) <;> cases h2 : List.lookup x pre <;> simp
      | some w =>
        rw [if_neg (by simp)]
        refine wpAny_pure ⟨rfl, pre ++ [(k, v)], by simp [e], fun x => ?_⟩
        rw [lk_app x pre, hb x, lk_one]
        by_cases c : x = k
        · subst c
          rw [hb x, lk_none_of hk] at hz
          cases h1 : List.lookup x (P.zip us ++ kw) with
          | some w => simp
          | none => rw [h1] at hz; simp at hz
        · rw [if_neg c]
          cases h1 : List.lookup x (P.zip us ++ kw) <;> cases h2 : List.lookup x pre <;> simp
    · rintro b s' ⟨es, pre, e, hb⟩
      subst s'
      have e' : (P.drop (P.length - its.length)).zip its = pre := by simpa using e
      subst e'
      have hbase : ∀ x ∈ KO, b.lookup x = (P.zip us ++ kw).lookup x := fun x hx => by
        rw [hb x]
        have : x ∉ ((P.drop (P.length - its.length)).zip its).map (·.1) := by
          rw [List.map_fst_zip (by rw [List.length_drop]; omega)]
          intro hm
          exact (List.nodup_append.mp nd).2.2 x (List.mem_of_mem_drop hm) x hx rfl
        rw [lk_none_of this]
        cases List.lookup x (P.zip us ++ kw) <;> rfl
      refine wpAny_bind (wpAny_forIn_list _ (fun rest c s' => s' = s ∧ c.2 = [] ∧ ∃ pre, KO = pre ++ rest ∧ ∀ x, (x ∈ pre → c.1.lookup x = (b.lookup x <|> kd x)) ∧ (x ∉ pre → c.1.lookup x = b.lookup x)) _ ?_ ?_ _ _ ⟨rfl, rfl, [], rfl, fun x => ⟨fun h => absurd h List.not_mem_nil, fun _ => rfl⟩⟩)
      · rintro k rest ⟨c, c2⟩ s' ⟨es, h2', pre, eK, hc⟩
        subst s'
        dsimp only at h2' hc ⊢
        subst h2'
        have hkK : k ∈ KO := by rw [eK]; simp
        have hkp : k ∉ pre := by
          have hn := (List.nodup_append.mp nd).2.1
          rw [eK] at hn
          intro hm
          exact (List.nodup_append.mp hn).2.2 k hm k List.mem_cons_self rfl
        have next : ∀ c' : List (Str × Value), c'.lookup k = (b.lookup k <|> kd k) → (∀ x, x ≠ k → c'.lookup x = c.lookup x) → ∀ x, (x ∈ pre ++ [k] → c'.lookup x = (b.lookup x <|> kd x)) ∧ (x ∉ pre ++ [k] → c'.lookup x = b.lookup x) := fun c' g1 g2 x => by
          by_cases cx : x = k
          · subst cx
            exact ⟨fun _ => g1, fun h => absurd (by simp) h⟩
          · refine ⟨fun h => ?_, fun h => ?_⟩
            · rw [g2 x cx]
              have hx' : x ∈ pre := by
                rcases List.mem_append.mp h with h | h
                · exact h
                · exact absurd (by simpa using h) cx
              exact (hc x).1 hx'
            · rw [g2 x cx]
              exact (hc x).2 fun hm => h (List.mem_append_left _ hm)
        have ck := (hc k).2 hkp
        cases hz : List.lookup k c with
        | some w =>
          rw [if_neg (by simp)]
          refine wpAny_pure ⟨rfl, rfl, pre ++ [k], by simp [eK], next c ?_ fun _ _ => rfl⟩
          rw [← ck, hz]; rfl
        | none =>
          rw [if_pos (by rfl : (Option.isNone (none : Option Value)) = true)]
          rcases kdo k hkK with h | ⟨D, v, e1, e2, e3⟩
          · rw [← hbase k hkK, ← ck, hz] at h; cases h
          · subst e1
            dsimp only
            refine wpAny_bind (e2.here ?_)
            refine wpAny_pure ⟨rfl, rfl, pre ++ [k], by simp [eK], next _ ?_ fun x hx => ?_⟩
            · rw [lk_app, hz, lk_one, if_pos rfl, ← ck, hz, e3]
            · rw [lk_app, lk_one, if_neg hx]
              cases List.lookup x c <;> rfl
      · rintro ⟨c, c2⟩ s' ⟨es, h2', pre, eK, hc⟩
        subst s'
        have eK' : KO = pre := by simpa using eK
        dsimp only at h2' hc ⊢
        subst h2' eK'
        rw [if_neg (by simp)]
        have fin : (P ++ KO).filterMap (fun n => Option.map (fun x => (n, x)) (List.lookup n c)) = (P ++ KO).zip vals := by
          refine fm_zip vlen fun i x hx => ?_
          rw [← hv i x hx]
          unfold fval
          rw [← hb x]
          by_cases hm : x ∈ KO
          · exact (hc x).1 hm
          · rw [(hc x).2 hm, kdp x hm]
            cases List.lookup x b <;> rfl
        rw [fin]
        cases hva : params.vararg with
        | none => exact wpAny_pure (q0 hva)
        | some a =>
          dsimp only
          exact wpAny_bind (wpAny_mono (q1 a hva) (fun t s' h => wpAny_pure h) fun _ _ h => h)
end MP
set_option maxHeartbeats 4000000
/-! MP: the table of a text's defs and classes; the text held against the terms. -/
namespace MP
open PySem PySem.Spec PyProof.Rows L2

structure Sig where
  pos : List Str
  kwo : List Str := []
  va : Option Str := none
  dfl : List Dc := []
  kwd : List (Str × Dc) := []
  deriving DecidableEq
def Sig.pk (s : Sig) : List Str := s.pos ++ s.kwo
def Sig.ps (s : Sig) : List Str := s.pk ++ s.va.toList
def plPos (s : Sig) (n : Nat) (ks : List Str) (i : Nat) (x : Str) : Option Pl :=
  if i < n then some (.pos i) else match ks.findIdx? (· == x) with
  | some j => some (.kw j)
  | none => if s.pos.length - s.dfl.length ≤ i then (s.dfl[i - (s.pos.length - s.dfl.length)]?).map .dfl else none
def plKw (s : Sig) (ks : List Str) (x : Str) : Option Pl := match ks.findIdx? (· == x) with
  | some j => some (.kw j)
  | none => (s.kwd.lookup x).map .dfl
def plAll (s : Sig) (n : Nat) (ks : List Str) : List (Option Pl) := (s.pos.zipIdx.map fun p => plPos s n ks p.2 p.1) ++ s.kwo.map (plKw s ks) ++ (match s.va with | some _ => [some (.rest s.pos.length)] | none => [])
/-- a call by n positional values (more, where star) and the keywords ks binds as the plan says -/
def planOk (s : Sig) (n : Nat) (star : Bool) (ks : List Str) (pl : List Pl) : Bool :=
  decide (plAll s n ks = pl.map some) && decide ks.Nodup && (ks.all fun k => (s.pos.drop n ++ s.kwo).contains k) && (if star then decide (s.pos.length ≤ n) && s.va.isSome else decide (n ≤ s.pos.length) || s.va.isSome)
/-- one def: a global's, or a method's -/
structure Row where
  at_ : Str × Option Str
  qual : Str
  st : Stmt
  N : List Str
  sig : Sig
  body : CSs
def Row.name (r : Row) : Str := r.at_.2.getD r.at_.1
structure ClsR where
  name : Str
  init : Nat
  meths : List (Nat × Nat)
  flds : List Nat
structure Prog where
  rows : List Row
  cls : List ClsR
  an : List Str
  consts : List (Str × Dc)
/-- the table of promises, by the depth of calls; hand: what is shown otherwise -/
def G (P : Prog) (hand : Nat → Option Prm) : Nat → Sg
  | 0 => ⟨fun _ => none, fun _ _ => False, P.cls.length⟩
  | n + 1 => ⟨fun f => match hand f with
    | some p => some p
    | none => (P.rows[f]?).map fun r => fun ds μ ex W => ds.length = r.sig.ps.length ∧ wB (G P hand n) r.N.length r.body ds μ ex W, fun _ _ => False, P.cls.length⟩

/-! ### parts of the text -/
def Bop.op : Bop → Operator
  | .add => .Add | .sub => .Sub | .mul => .Mult | .fdiv => .FloorDiv | .mod => .Mod | .pow => .Pow
def Cop.op : Cop → CmpOp
  | .eq => .Eq | .ne => .NotEq | .lt => .Lt | .le => .LtE | .gt => .Gt | .ge => .GtE | .isN => .Is | .notN => .IsNot | .in_ => .In | .notIn => .NotIn
def isStar : Expr → Bool
  | .Starred _ _ => true
  | _ => false
def isSet : Expr → Bool
  | .Set _ _ _ => true
  | _ => false
def isSlice : Expr → Bool
  | .Slice _ _ _ _ => true
  | _ => false
def isComp : Expr → Bool
  | .ListComp _ _ _ _ => true
  | .SetComp _ _ _ _ => true
  | .DictComp _ _ _ _ _ => true
  | _ => false
def visB (sc : Scope) (x : Str) : Bool := match sc.names.lookup x with
  | some .local => true
  | some .cell => true
  | some .free => true
  | _ => false
def locB (sc : Scope) (x : Str) : Bool := match sc.names.lookup x with
  | some .local => true
  | some .cell => true
  | _ => false
def globB (sc : Scope) (x : Str) : Bool := (match sc.names.lookup x with | some .globalImplicit => true | _ => false) && !(x == ("__debug__" : Str))
def chkName (N : List Str) (sc : Scope) (i : Nat) : Expr → Bool
  | .Name x _ => decide (N[i]? = some x) && locB sc x
  | _ => false
def chkNames (N : List Str) (sc : Scope) : List Nat → List Expr → Bool
  | [], [] => true
  | i :: is, e :: es => chkName N sc i e && chkNames N sc is es
  | _, _ => false
def chkTg (N : List Str) (sc : Scope) : Tg → Expr → Bool
  | .one i, e => chkName N sc i e
  | .tup is, .Tuple es _ _ => chkNames N sc is es
  | _, _ => false
def tgIn (tg : Tg) (vs : List Nat) : Bool := match tg with
  | .one i => decide (i ∈ vs)
  | .tup is => is.all fun i => decide (i ∈ vs)
/-- a comprehension's scope within the scope around -/
def relS (scope sc : Scope) : Scope := { scope with names := scope.names.map fun (n, k) => if (k == NameKind.free && sc.kind == .function && sc.names.lookup n == some .cell) then (n, NameKind.cell) else (n, k) }
def isTup : Expr → Bool
  | .Tuple _ _ _ => true
  | _ => false
def tyName (sc : Scope) (t : Ty) : Expr → Bool
  | .Name x _ => decide (x = Str.ofString t.name) && globB sc x
  | _ => false
def tyNames (sc : Scope) : List Ty → List Expr → Bool
  | [], [] => true
  | t :: ts, e :: es => tyName sc t e && tyNames sc ts es
  | _, _ => false
def kwNames : List Str → List Keyword → Bool
  | [], [] => true
  | k :: ks, ⟨some x, _, _⟩ :: r => decide (k = x) && kwNames ks r
  | _, _ => false
def kwVals (l : List Keyword) : List Expr := l.map (·.value)
/-- nothing of super() -/
def baseB : Expr → Bool
  | .Call (.Name id _) [] [] _ => !(id == ("super" : Str))
  | _ => true
def mcB (o : Expr) (ap p : Pos) (n : Nat) : Bool := baseB o && (ap.endLine == p.line) && decide (n < 28)
/-- which argument lists are served: a star stands alone, or behind a plain one -/
def okArgs (ks : List Str) (as : CEs) : Bool := as.plain || (ks.isEmpty && match as with | .star _ .nil => true | .star _ _ => false | _ => true)
/-- x is the global name of the def f -/
def rowAt (P : Prog) (f : Nat) (at_ : Str × Option Str) (n : Nat) (star : Bool) (ks : List Str) (pl : List Pl) : Bool := match P.rows[f]? with
  | some r => decide (r.at_ = at_) && planOk r.sig n star ks pl
  | none => false
def clsAt (P : Prog) (c : Nat) (x : Str) : Bool := match P.cls[c]? with
  | some r => decide (r.name = x)
  | none => false
/-- f is the method m of the class c -/
def methAt (P : Prog) (c m f : Nat) (x : Str) : Bool := match P.cls[c]? with
  | some r => decide (r.meths.lookup m = some f) && decide (P.an[m]? = some x)
  | none => false
def clsName (P : Prog) (c : Nat) : Str := match P.cls[c]? with
  | some r => r.name
  | none => Str.empty
def fldAt (P : Prog) (f : Nat) (x : Str) : Bool := decide (P.an[f]? = some x) && P.cls.all fun c => c.flds.contains f
/-- no keyword, or one with a value named -/
abbrev EX := List Expr
mutual
def chkE (P : Prog) (N : List Str) (sc : Scope) : CE → Expr → Bool
  | .var i, .Name x _ => decide (N[i]? = some x) && visB sc x && !(x == ("__debug__" : Str)) && !(x == ("__classdict__" : Str))
  | .int n, .Constant (.int m) _ _ => decide (n = m)
  | .str x, .Constant (.str y) _ _ => decide (x = y)
  | .bl x, .Constant (.bool y) _ _ => decide (x = y)
  | .non, .Constant .none _ _ => true
  | .gc x d, .Name y _ => decide (x = y) && globB sc y && decide ((x, d) ∈ P.consts)
  | .bin op a b, .BinOp l o r _ => decide (o = op.op) && chkE P N sc a l && chkE P N sc b r
  | .neg a, .UnaryOp .USub e _ => chkE P N sc a e
  | .cmp op a b, .Compare l [o] [r] _ => decide (o = op.op) && !isSet r && chkE P N sc a l && chkE P N sc b r
  | .chain p q a b c, .Compare l [o, o'] [r, r'] _ => decide (o = p.op) && decide (o' = q.op) && !isSet r' && chkE P N sc a l && chkE P N sc b r && chkE P N sc c r'
  | .not a, .UnaryOp .Not e _ => chkE P N sc a e
  | .bop k a b, .BoolOp op [e, f] _ => decide (op = if k then .And else .Or) && chkE P N sc a e && chkE P N sc b f
  | .bop k a b, .BoolOp op (e :: f :: g :: r) p => decide (op = if k then .And else .Or) && chkE P N sc a e && chkE P N sc b (.BoolOp op (f :: g :: r) p)
  | .ife t a b, .IfExp u e f _ => chkE P N sc t u && chkE P N sc a e && chkE P N sc b f
  | .tup es, .Tuple l _ _ => decide (es.len ≤ 1000) && es.plain && chkEs P N sc es l
  | .lst _ es, .List l _ => decide (es.len ≤ 1000) && es.plain && chkEs P N sc es l
  | .dct1 k v, .Dict [some e] [f] _ => chkE P N sc k e && chkE P N sc v f
  | .call f es ks kes pl, .Call (.Name x _) l kws _ => okArgs ks es && globB sc x && rowAt P f (x, none) es.npl (!es.plain) ks pl && chkEs P N sc es l && kwNames ks kws && kes.plain && chkEs P N sc kes (kwVals kws)
  | .mk c f es ks kes pl, .Call (.Name x _) l kws _ => okArgs ks es && globB sc x && clsAt P c x && rowAt P f (x, some "__init__") (es.npl + 1) (!es.plain) ks pl && chkEs P N sc es l && kwNames ks kws && kes.plain && chkEs P N sc kes (kwVals kws)
  | .meth c m f e es ks kes pl, .Call (.Attribute o x ap) l kws p => mcB o ap p (l.length + kws.length) && es.plain && methAt P c m f x && rowAt P f (clsName P c, some x) (es.npl + 1) false ks pl && chkE P N sc e o && chkEs P N sc es l && kwNames ks kws && kes.plain && chkEs P N sc kes (kwVals kws)
  | .attr e f, .Attribute o x _ => baseB o && fldAt P f x && chkE P N sc e o
  | .bcall b es, .Call (.Name x _) l [] _ => decide (b.name = x) && globB sc x && es.plain && chkEs P N sc es l
  | .blist e, .Call (.Name x _) [l] [] _ => decide (x = "list") && globB sc x && !isStar l && chkE P N sc e l
  | .bmeth m e es, .Call (.Attribute o x ap) l [] p => mcB o ap p l.length && decide (es.len ≥ 1) && decide (m.name = x) && es.plain && chkE P N sc e o && chkEs P N sc es l
  | .smeth m e es, .Call (.Attribute o x ap) l [] p => mcB o ap p l.length && decide (es.len ≥ 1) && decide (m.name = x) && es.plain && chkE P N sc e o && chkEs P N sc es l
  | .isi a t, .Call (.Name x _) [e, f] [] _ => decide (x = "isinstance") && globB sc x && !isStar e && chkE P N sc a e && tyName sc t f
  | .isis a ts, .Call (.Name x _) [e, .Tuple fs _ _] [] _ => decide (ts.length ≤ 1000) && decide (x = "isinstance") && globB sc x && !isStar e && chkE P N sc a e && tyNames sc ts fs
  | .isc a c, .Call (.Name x _) [e, .Name y _] [] _ => decide (x = "isinstance") && globB sc x && globB sc y && clsAt P c y && !isStar e && chkE P N sc a e
  | .sub a i, .Subscript e f _ => !isSlice f && chkE P N sc a e && chkE P N sc i f
  | .slice a lo hi, .Subscript e (.Slice l h none _) _ => chkE P N sc a e && chkO P N sc lo l && chkO P N sc hi h
  | .lc tg it cond elt own, .ListComp e [⟨t, i, ifs, n⟩] scope _ => decide (n = 0) && chkTg N scope tg t && chkI P N sc it i (isTup t) && chkC P N (relS scope sc) cond ifs && chkE P N (relS scope sc) elt e && blkC N sc scope own && tgIn tg (own.map (·.2))
  | .opb op c m f a b, .BinOp l o r _ => decide (o = op.op) && decide (P.an[m]? = some (dunder o.info.2)) && methAt P c m f (dunder o.info.2) && rowAt P f (clsName P c, some (dunder o.info.2)) 2 false [] [.pos 0, .pos 1] && chkE P N sc a l && chkE P N sc b r
  | .opc c m f a es pl, .Call fe l [] _ => methAt P c m f "__call__" && rowAt P f (clsName P c, some "__call__") (es.npl + 1) false [] pl && es.plain && decide (es.len ≥ 1) && isName fe && chkE P N sc a fe && chkEs P N sc es l
  | .fst es, .JoinedStr l _ => decide (2 ≤ l.length) && chkF P N sc es l
  | .frz e, x => !isComp x && chkE P N sc e x
  | _, _ => false
def chkEs (P : Prog) (N : List Str) (sc : Scope) : CEs → List Expr → Bool
  | .nil, [] => true
  | .cons a as, e :: es => !isStar e && chkE P N sc a e && chkEs P N sc as es
  | .star a as, .Starred e _ :: es => chkE P N sc a e && chkEs P N sc as es
  | _, _ => false
def chkF (P : Prog) (N : List Str) (sc : Scope) : CEs → List Expr → Bool
  | .nil, [] => true
  | .cons (.str x) as, .Constant (.str y) _ _ :: es => decide (x = y) && chkF P N sc as es
  | .cons a as, .FormattedValue e c none _ :: es => decide (c = -1) && chkE P N sc a e && chkF P N sc as es
  | _, _ => false
def chkO (P : Prog) (N : List Str) (sc : Scope) : CO → Option Expr → Bool
  | .none, none => true
  | .some a, some e => chkE P N sc a e
  | _, _ => false
def chkC (P : Prog) (N : List Str) (sc : Scope) : CO → List Expr → Bool
  | .none, [] => true
  | .some c, [f] => chkE P N sc c f
  | _, _ => false
def chkI (P : Prog) (N : List Str) (sc : Scope) : CI → Expr → Bool → Bool
  | .seq a, e, _ => chkE P N sc a e && !isSet e
  | .rng1 a, .Call (.Name x _) [e] [] _, _ => decide (x = "range") && globB sc x && !isStar e && chkE P N sc a e
  | .rng2 a b, .Call (.Name x _) [e, f] [] _, _ => decide (x = "range") && globB sc x && !isStar e && !isStar f && chkE P N sc a e && chkE P N sc b f
  | .zip a b, .Call (.Name x _) [e, f] [] _, t => t && decide (x = "zip") && globB sc x && !isStar e && !isStar f && chkE P N sc a e && chkE P N sc b f
  | .enum a, .Call (.Name x _) [e] [] _, t => t && decide (x = "enumerate") && globB sc x && !isStar e && chkE P N sc a e
  | _, _, _ => false
def isName : Expr → Bool
  | .Name _ _ => true
  | _ => false
end
/-- name = comprehension, stored within the comprehension's frame -/
def swB (sc : Scope) (y : Str) (py : Pos) : Expr → Bool
  | .ListComp _ _ scope pos => (match sc.names.lookup y with | some .local => true | _ => false) && (py.line == pos.line) && !(scope.names.any fun (n, k) => n == y && (k == .local || k == .cell))
  | _ => false
def isLoc (sc : Scope) (x : Str) : Bool := match sc.names.lookup x with
  | some .local => true
  | _ => false
def allLoc (sc : Scope) (ts : List Expr) : Bool := ts.all fun t => match t with | .Name x _ => (match sc.names.lookup x with | some .local => true | _ => false) | _ => false
def tupR (sc : Scope) (ts : List Expr) : Expr → Bool
  | .Tuple vs _ _ => (!(vs.length == ts.length) || !allLoc sc ts) && !(vs.any isStar)
  | _ => true
def foldA (vs : List Expr) : Bool := vs.all (foldedForSure 8)
def foldB (vs : List Expr) : Bool := vs.all (constantsAlone 8)
mutual
def chkS (P : Prog) (N : List Str) (sc : Scope) : CS → Stmt → Bool
  | .set i e, .Assign [t] v _ => chkName N sc i t && chkE P N sc e v
  | .setT is e, .Assign [.Tuple ts _ _] v _ => chkNames N sc is ts && chkE P N sc e v && !isComp v && tupR sc ts v
  | .par i j a b, .Assign [.Tuple [.Name x px, .Name y py] _ _] (.Tuple [v, w] _ _) _ => decide (N[i]? = some x) && decide (N[j]? = some y) && isLoc sc x && isLoc sc y && (px.line == py.line) && !(x == y) && !isStar v && !isStar w && (!foldA [v, w] && !foldB [v, w]) && chkE P N sc a v && chkE P N sc b w
  | .attr o f e, .Assign [.Attribute t x _] v _ => fldAt P f x && !isComp v && chkE P N sc o t && chkE P N sc e v
  | .sub o i e, .Assign [.Subscript t s _] v _ => !isComp v && !isSlice s && chkE P N sc o t && chkE P N sc i s && chkE P N sc e v
  | .expr e, .Expr v _ => chkE P N sc e v && !isComp v
  | .ret e, .Return (some v) _ => chkE P N sc e v
  | .retN, .Return none _ => true
  | .pass, .Pass _ => true
  | .brk, .Break _ => true
  | .cont, .Continue _ => true
  | .ite t a b, .If c x y _ => chkE P N sc t c && chkSs P N sc a x && chkSs P N sc b y
  | .for_ tg it body, .For t i x [] _ => chkTg N sc tg t && chkI P N sc it i (isTup t) && chkSs P N sc body x
  | .never, _ => true
  | _, _ => false
def chkSs (P : Prog) (N : List Str) (sc : Scope) : CSs → List Stmt → Bool
  | .nil, [] => true
  | .cons s ss, e :: es => chkS P N sc s e && chkSs P N sc ss es
  | _, _ => false
end
def scopeB (N ps : List Str) (sc : Scope) : Bool := decide (sc.kind = .function) && !sc.isCoroutine && !sc.isGenerator && decide N.Nodup && decide (N.take ps.length = ps) && (ps.all fun x => locB sc x) && sc.names.all fun y => !decide (y.2 = .free)
theorem loc_of {sc : Scope} {x : Str} (h : locB sc x = true) : Loc sc x := by
  unfold locB at h
  split at h
  · exact .inl (by assumption)
  · exact .inr (by assumption)
  · cases h
theorem scope_by {N ps : List Str} {sc : Scope} (h : scopeB N ps sc = true) : FnScope N ps sc := by
  unfold scopeB at h
  simp only [Bool.and_eq_true, decide_eq_true_eq, Bool.not_eq_true', List.all_eq_true, decide_eq_false_iff_not] at h
  obtain ⟨⟨⟨⟨⟨⟨h1, h2⟩, h3⟩, h4⟩, h5⟩, h6⟩, h7⟩ := h
  exact ⟨h1, h2, h3, h4, h5, fun x hx => loc_of (h6 x hx), h7⟩
/-- a default that is no object -/
def Dc.flat : Dc → Bool
  | .strs _ => false
  | _ => true
def argsB (a : Arguments) (s : Sig) : Bool := (s.dfl.all fun d => d.flat) && (s.kwd.all fun d => d.2.flat) && a.posonlyargs.isEmpty && a.kwarg.isNone && decide (a.args.map (·.arg) = s.pos) && decide (a.kwonlyargs.map (·.arg) = s.kwo) && decide (a.vararg.map (·.arg) = s.va) && decide s.pk.Nodup && decide (s.dfl.length ≤ s.pos.length)
/-- a row's text is as the table tells it -/
def Row.ok (P : Prog) (r : Row) : Bool := argsB (defArgs r.st) r.sig && scopeB r.N r.sig.ps (defScope r.st) && chkSs P r.N (defScope r.st) r.body (defBody r.st)
end MP
set_option maxHeartbeats 4000000
/-! MP: what is wanted of code, as readings; operations on data, by the layer's rules. -/
namespace MP
open PySem PySem.Spec PyProof.Rows L2
section
variable (X : Cx)
abbrev wpt (e : Expr) : TE := fun σ H Q => ∀ pins s, Inv X pins σ H s → wpAny (model X.prog X.w) X.A (eval e X.env) (EP X pins σ Q) X.xe s
abbrev wptt (e : Expr) : TT := fun σ H Q => ∀ pins s, Inv X pins σ H s → wpAny (model X.prog X.w) X.A (isTrue e X.env (eval e X.env)) (TP X pins σ Q) X.xe s
abbrev wpa (es : List Expr) : TA := fun σ H Q => ∀ (pos : Pos) pins s, Inv X pins σ H s → wpAny (model X.prog X.w) X.A (spliced (backTo pos (starEach es X.env))) (AP X pins σ Q) X.xe s
abbrev wpk (es : List Keyword) : TA := fun σ H Q => ∀ (pos : Pos) pins s, Inv X pins σ H s → wpAny (model X.prog X.w) X.A (evalAll ((backToKw pos (keywordEach es X.env)).map (·.2))) (AP X pins σ Q) X.xe s
abbrev wpr (f : Value → Value → Sem Value) : R2 := fun x y H Q => ∀ pins s σ v u, Inv X pins σ H s → RelV x v → RelV y u → wpAny (model X.prog X.w) X.A (f v u) (EP X pins σ Q) X.xe s
abbrev wpc (f : Value) : List V → Hp → VK → Prop := fun xs H Q => ∀ pins s σ us, Inv X pins σ H s → Vals xs us → wpAny (model X.prog X.w) X.A (call f us) (EP X pins σ Q) X.xe s
abbrev wpm (id : String) : V → List V → Hp → VK → Prop := fun x xs H Q => ∀ pins s σ v us, Inv X pins σ H s → RelV x v → Vals xs us → wpAny (model X.prog X.w) X.A (call (.builtin id) (v :: us)) (EP X pins σ Q) X.xe s
abbrev wps (st : Stmt) : TS := fun D σ H => ∀ pins s, Inv X pins σ H s → wpAny (model X.prog X.w) X.A (exec st X.env) (SP X pins D) X.xe s
abbrev wpss (st : List Stmt) : TS := fun D σ H => ∀ pins s, Inv X pins σ H s → wpAny (model X.prog X.w) X.A (execs st X.env) (SP X pins D) X.xe s
abbrev wpi (tg iter : Expr) : TI := fun σ H R => ∀ pins s, Inv X pins σ H s → wpAny (model X.prog X.w) X.A (eval iter X.env) (fun v s1 => wpAny (model X.prog X.w) X.A (pyIter v) (PIE X pins σ tg R) X.xe s1) X.xe s
abbrev wpg (tg : Expr) : TG := fun v σ H Q => ∀ pins s u, Inv X pins σ H s → RelV v u → wpAny (model X.prog X.w) X.A (assign tg X.env u) (fun _ s' => ∃ σ' H', Inv X pins σ' H' s' ∧ Q σ' H') X.xe s
end
section
variable {X : Cx}
theorem pe_wpt (e : Expr) : PE X e (wpt X e) := ⟨fun pins s σ H Q I h => h pins s I⟩
theorem pt_wpt (e : Expr) : PT X e (wptt X e) := ⟨fun pins s σ H Q I h => h pins s I⟩
theorem pa_wpt (e : List Expr) : PA X e (wpa X e) := ⟨fun pos pins s σ H Q I h => h pos pins s I⟩
theorem pk_wpt (e : List Keyword) : PK X e (wpk X e) := ⟨fun pos pins s σ H Q I h => h pos pins s I⟩
theorem or_wpt (f : Value → Value → Sem Value) : OpR X f (wpr X f) := fun pins s σ H x y v u Q I rx ry h => h pins s σ v u I rx ry
theorem cr_wpt (f : Value) : CallR X f (wpc X f) := fun pins s σ H xs us Q I r h => h pins s σ us I r
theorem mt_wpt (id : String) : MtR X id (wpm X id) := fun pins s σ H x xs v us Q I rx r h => h pins s σ v us I rx r
theorem ps_wpt (e : Stmt) : PS X e (wps X e) := ⟨fun pins s σ H D I h => h pins s I⟩
theorem pss_wpt (e : List Stmt) : PSs X e (wpss X e) := ⟨fun pins s σ H D I h => h pins s I⟩
theorem pi_wpt (tg e : Expr) : PI X tg e (wpi X tg e) := ⟨fun pins s σ H R I h => h pins s I⟩
theorem pg_wpt (tg : Expr) : PG X tg (wpg X tg) := ⟨fun pins s σ H v u Q I r h => h pins s u I r⟩
theorem of_pe {e : Expr} {t : TE} (h : PE X e t) {σ : L2.St} {H : Hp} {Q : VK} (q : t σ H Q) : wpt X e σ H Q := fun pins s I => h.run pins s σ H Q I q
theorem of_pt {e : Expr} {t : TT} (h : PT X e t) {σ : L2.St} {H : Hp} {Q : Bool → Hp → Prop} (q : t σ H Q) : wptt X e σ H Q := fun pins s I => h.run pins s σ H Q I q
theorem of_pa {e : List Expr} {t : TA} (h : PA X e t) {σ : L2.St} {H : Hp} {Q : List V → Hp → Prop} (q : t σ H Q) : wpa X e σ H Q := fun pos pins s I => h.run pos pins s σ H Q I q
theorem of_pk {e : List Keyword} {t : TA} (h : PK X e t) {σ : L2.St} {H : Hp} {Q : List V → Hp → Prop} (q : t σ H Q) : wpk X e σ H Q := fun pos pins s I => h.run pos pins s σ H Q I q
theorem of_or {f : Value → Value → Sem Value} {r : R2} (h : OpR X f r) {x y : V} {H : Hp} {Q : VK} (q : r x y H Q) : wpr X f x y H Q := fun pins s σ v u I rx ry => h pins s σ H x y v u Q I rx ry q
theorem of_cr {f : Value} {r : List V → Hp → VK → Prop} (h : CallR X f r) {xs : List V} {H : Hp} {Q : VK} (q : r xs H Q) : wpc X f xs H Q := fun pins s σ us I r => h pins s σ H xs us Q I r q
theorem of_mt {id : String} {r : V → List V → Hp → VK → Prop} (h : MtR X id r) {x : V} {xs : List V} {H : Hp} {Q : VK} (q : r x xs H Q) : wpm X id x xs H Q := fun pins s σ v us I rx r => h pins s σ H x xs v us Q I rx r q
theorem of_ps {e : Stmt} {t : TS} (h : PS X e t) {σ : L2.St} {H : Hp} {D : Ends} (q : t D σ H) : wps X e D σ H := fun pins s I => h.run pins s σ H D I q
theorem of_pss {e : List Stmt} {t : TS} (h : PSs X e t) {σ : L2.St} {H : Hp} {D : Ends} (q : t D σ H) : wpss X e D σ H := fun pins s I => h.run pins s σ H D I q
theorem of_pi {tg e : Expr} {t : TI} (h : PI X tg e t) {σ : L2.St} {H : Hp} {R : It → Hp → Prop} (q : t σ H R) : wpi X tg e σ H R := fun pins s I => h.run pins s σ H R I q
theorem of_pg {tg : Expr} {t : TG} (h : PG X tg t) {v : V} {σ : L2.St} {H : Hp} {Q : L2.St → Hp → Prop} (q : t v σ H Q) : wpg X tg v σ H Q := fun pins s u I r => h.run pins s σ H v u Q I r q
theorem wpt_inv {e : Expr} {σ : L2.St} {H : Hp} {Q : VK} (h : wpt X e σ H fun v H1 => (∃ pins s, Inv X pins σ H1 s) → Q v H1) : wpt X e σ H Q :=
  fun pins s I => thn (h pins s I) fun u s' ⟨v, H', I', r, q⟩ => ⟨v, H', I', r, q ⟨_, _, I'⟩⟩
end
/-! ### what is seen of a value -/
theorem vw_loc {μ : Mu} {a : Addr} : vw μ (.loc a) = (μ a).getD (.loc a) := rfl
inductive Rw (T : Tb) (R H : Hp) : V → D → Prop
  | non : Rw T R H .non .non
  | bl (b : Bool) : Rw T R H (.bl b) (.bl b)
  | int (i : Int) : Rw T R H (.int i) (.int i)
  | str (x : Str) : Rw T R H (.str x) (.str x)
  | tup {a : Addr} {xs : List V} {ds : List D} : SqT T.K H a xs → RdAll T R xs ds → Rw T R H (.ref a) (.tup ds)
  | lst {a : Addr} {xs : List V} {ds : List D} : H a = some (.lst xs) → RdAll T R xs ds → Rw T R H (.ref a) (.lst ds)
  | dct {a : Addr} {kvs : List (Key × V)} {ds : List (Key × D)} : H a = some (.dK kvs) → RdKV T R kvs ds → Rw T R H (.ref a) (.dct ds)
  | ins {a dx : Addr} {c : Nat} {vs : List (Str × V)} {fs : List (Nat × D)} : H a = some (.ins (T.ca c) dx vs) → RdF T R vs fs → Rw T R H (.ref a) (.ins c fs)
  | exc {a dx : Addr} {c : Nat} {vs : List (Str × V)} {fs : List (Nat × D)} : H a = some (exh a (T.ca c) dx) → H dx = some (exd dx vs) → RdF T R vs fs → Rw T R H (.ref a) (.exc c fs)
  | loc (a : Addr) : Rw T R H (.ref a) (.loc a)
  | bag : Rw T R H (.ref T.B) .bag
section
variable {T : Tb} {μ : Mu} {R H : Hp}
theorem Rd.rw (s : Same R H) (o : StoOk T R H μ) {v : V} {d : D} (r : Rd T R v d) : Rw T R H v (vw μ d) := by
  cases r with
  | non => exact .non
  | bl b => exact .bl b
  | int b => exact .int b
  | str b => exact .str b
  | tup q r => exact .tup (sqT_mono s q) r
  | lst q r => exact .lst (s _ _ q) r
  | dct q r => exact .dct (s _ _ q) r
  | ins q r => exact .ins (s _ _ q) r
  | exc q u r => exact .exc (s _ _ q) (s _ _ u) r
  | loc a =>
    rw [vw_loc]
    cases e : μ a with
    | none => exact .loc a
    | some d =>
      have c := (o a d e).2.2
      show Rw T R H (.ref a) d
      cases d <;> first | exact c.elim | skip
      · obtain ⟨vs, h1, h2⟩ := c; exact .lst h1 h2
      · obtain ⟨vs, h1, h2⟩ := c; exact .dct h1 h2
      · obtain ⟨dx, vs, h1, h2⟩ := c; exact .ins h1 h2
  | bag => exact .bag
inductive RwAll (T : Tb) (R H : Hp) : List V → List D → Prop
  | nil : RwAll T R H [] []
  | cons {v : V} {vs : List V} {d : D} {ds : List D} : Rw T R H v d → RwAll T R H vs ds → RwAll T R H (v :: vs) (d :: ds)
theorem RdAll.rw (s : Same R H) (o : StoOk T R H μ) : ∀ {vs : List V} {ds : List D}, RdAll T R vs ds → RwAll T R H vs (ds.map (vw μ))
  | _, _, .nil => .nil
  | _, _, .cons a r => .cons (a.rw s o) (RdAll.rw s o r)
/-- what is seen as a value that never changes is that value -/
theorem vw_int {μ : Mu} {d : D} {i : Int} (o : StoOk T R H μ) (h : vw μ d = .int i) : d = .int i := by
  cases d <;> first | exact h | skip
  rename_i a
  rw [vw_loc] at h
  cases e : μ a with
  | none => rw [e] at h; cases h
  | some d => rw [e] at h; cases (show d = .int i from h); exact ((o a _ e).2.2).elim
theorem vw_str {μ : Mu} {d : D} {i : Str} (o : StoOk T R H μ) (h : vw μ d = .str i) : d = .str i := by
  cases d <;> first | exact h | skip
  rename_i a
  rw [vw_loc] at h
  cases e : μ a with
  | none => rw [e] at h; cases h
  | some d => rw [e] at h; cases (show d = .str i from h); exact ((o a _ e).2.2).elim
theorem vw_tup {μ : Mu} {d : D} {i : List D} (o : StoOk T R H μ) (h : vw μ d = .tup i) : d = .tup i := by
  cases d <;> first | exact h | skip
  rename_i a
  rw [vw_loc] at h
  cases e : μ a with
  | none => rw [e] at h; cases h
  | some d => rw [e] at h; cases (show d = .tup i from h); exact ((o a _ e).2.2).elim
end
/-! ### truth -/
theorem truD_imp {d : D} {P P' : Bool → Prop} (h : truD d P) (f : ∀ c, P c → P' c) : truD d P' := by
  cases d <;> simp only [truD] at h ⊢ <;> first | exact f _ h | exact ⟨h.1, f _ h.2⟩ | exact h
theorem truD_and {d : D} {P P' : Bool → Prop} (h : truD d P) (h' : truD d P') : truD d fun c => P c ∧ P' c := by
  cases d <;> simp only [truD] at h h' ⊢ <;> first | exact ⟨h, h'⟩ | exact ⟨h.1, h.2, h'.2⟩ | exact h
theorem emp_len {α β : Type} {xs : List α} {ys : List β} (h : xs.length = ys.length) : xs.isEmpty = ys.isEmpty := by
  cases xs <;> cases ys <;> first | rfl | simp at h
section
variable {T : Tb} {R H : Hp}
theorem tru_rd {v : V} {d : D} {P : Bool → Prop} (r : Rw T R H v d) (h : truD d P) : ∃ k, TruV T.K v H k ∧ P k := by
  cases r with
  | non => exact ⟨_, rfl, h⟩
  | bl b => exact ⟨_, rfl, h⟩
  | int i => exact ⟨_, rfl, h⟩
  | str x => exact ⟨_, ⟨h.1, rfl⟩, h.2⟩
  | @tup a xs ds q r =>
    refine ⟨_, .inr (.inl ⟨xs, q, rfl⟩), ?_⟩
    rw [emp_len r.length]; exact h
  | @lst a xs ds q r =>
    refine ⟨_, .inl ⟨xs, SqL.of q, rfl⟩, ?_⟩
    rw [emp_len r.length]; exact h
  | @dct a xs ds q r =>
    refine ⟨_, .inr (.inr ⟨xs, q, rfl⟩), ?_⟩
    rw [emp_len r.length]; exact h
  | ins q r => exact h.elim
  | exc q u r => exact h.elim
  | loc a => exact h.elim
  | bag => exact h.elim
end
/-! ### equality -/
mutual
def toP : D → PyData
  | .non => .none
  | .bl b => .bool b
  | .int i => .int i
  | .str x => .str x
  | .lst ds => .list (toPs ds)
  | .tup ds => .tuple (toPs ds)
  | _ => .dict []
def toPs : List D → List PyData
  | [] => []
  | d :: ds => toP d :: toPs ds
end
mutual
theorem eqv_toP : ∀ (x y : D), layD x = true → layD y = true → PyData.eqv (toP x) (toP y) = eqD x y
  | x, y => by
    intro hx hy
    cases x <;> cases y <;> first
      | (simp only [toP, PyData.eqv, eqD]; done)
      | (simp only [layD] at hx hy; simp only [toP, PyData.eqv, eqD]; exact eqvs_toP _ _ hx hy)
      | (exfalso; simp [layD] at hx; done)
      | (exfalso; simp [layD] at hy; done)
theorem eqvs_toP : ∀ (xs ys : List D), layDs xs = true → layDs ys = true → PyData.eqvAll (toPs xs) (toPs ys) = eqDs xs ys
  | [], [] => by intro _ _; simp only [toPs, PyData.eqvAll, eqDs]
  | [], _ :: _ => by intro _ _; simp only [toPs, PyData.eqvAll, eqDs]
  | _ :: _, [] => by intro _ _; simp only [toPs, PyData.eqvAll, eqDs]
  | x :: xs, y :: ys => by
    intro hx hy
    simp only [layDs, Bool.and_eq_true] at hx hy
    simp only [toPs, PyData.eqvAll, eqDs]
    rw [eqv_toP x y hx.1 hy.1, eqvs_toP xs ys hx.2 hy.2]
end
mutual
theorem lay_toP : ∀ (x : D), layD x = true → (toP x).canLay0 = true
  | .non, _ => by simp [toP, PyData.canLay0]
  | .bl _, _ => by simp [toP, PyData.canLay0]
  | .int _, _ => by simp [toP, PyData.canLay0]
  | .str x, h => by simp only [layD] at h; simpa [toP, PyData.canLay0] using h
  | .lst xs, h => by simp only [layD] at h; simp only [toP, PyData.canLay0]; exact lays_toP xs h
  | .tup xs, h => by simp only [layD] at h; simp only [toP, PyData.canLay0]; exact lays_toP xs h
  | .dct _, h => by simp [layD] at h
  | .ins _ _, h => by simp [layD] at h
  | .exc _ _, h => by simp [layD] at h
  | .loc _, h => by simp [layD] at h
  | .bag, h => by simp [layD] at h
theorem lays_toP : ∀ (x : List D), layDs x = true → PyData.canLayAll0 (toPs x) = true
  | [], _ => by simp [toPs, PyData.canLayAll0]
  | x :: xs, h => by
    simp only [layDs, Bool.and_eq_true] at h
    simp only [toPs, PyData.canLayAll0, Bool.and_eq_true]
    exact ⟨lay_toP x h.1, lays_toP xs h.2⟩
end
mutual
theorem dep_toP : ∀ (x : D), layD x = true → (toP x).depth = depD x
  | .non, _ => by simp [toP, PyData.depth, depD]
  | .bl _, _ => by simp [toP, PyData.depth, depD]
  | .int _, _ => by simp [toP, PyData.depth, depD]
  | .str x, h => by simp [toP, PyData.depth, depD]
  | .lst xs, h => by simp only [layD] at h; simp only [toP, PyData.depth, depD]; rw [deps_toP xs h]
  | .tup xs, h => by simp only [layD] at h; simp only [toP, PyData.depth, depD]; rw [deps_toP xs h]
  | .dct _, h => by simp [layD] at h
  | .ins _ _, h => by simp [layD] at h
  | .exc _ _, h => by simp [layD] at h
  | .loc _, h => by simp [layD] at h
  | .bag, h => by simp [layD] at h
theorem deps_toP : ∀ (x : List D), layDs x = true → PyData.depthAll (toPs x) = depDs x
  | [], _ => by simp [toPs, PyData.depthAll, depDs]
  | x :: xs, h => by
    simp only [layDs, Bool.and_eq_true] at h
    simp only [toPs, PyData.depthAll, depDs]
    rw [dep_toP x h.1, deps_toP xs h.2]
end
section
variable {T : Tb} {R H : Hp}
mutual
theorem dp_rd (s : Same R H) : ∀ {v : V} {d : D}, layD d = true → Rd T R v d → Dp T.K H v (toP d)
  | _, _, _, .non => by simp only [toP]; exact .non
  | _, _, _, .bl b => by simp only [toP]; exact .bl b
  | _, _, _, .int i => by simp only [toP]; exact .int i
  | _, _, _, .str x => by simp only [toP]; exact .str x
  | _, _, h, .tup q r => by simp only [layD] at h; simp only [toP]; exact .tup (sqT_mono s q) (dps_rd s h r)
  | _, _, h, .lst q r => by simp only [layD] at h; simp only [toP]; exact .lst (SqL.of (s _ _ q)) (dps_rd s h r)
  | _, _, h, .dct q r => by simp [layD] at h
  | _, _, h, .ins q r => by simp [layD] at h
  | _, _, h, .exc q u r => by simp [layD] at h
  | _, .loc _, h, _ => by simp [layD] at h
  | _, _, h, .bag => by simp [layD] at h
theorem dps_rd (s : Same R H) : ∀ {v : List V} {d : List D}, layDs d = true → RdAll T R v d → DpAll T.K H v (toPs d)
  | _, _, _, .nil => by simp only [toPs]; exact .nil
  | _, _, h, .cons a r => by
    simp only [layDs, Bool.and_eq_true] at h
    simp only [toPs]
    exact .cons (dp_rd s h.1 a) (dps_rd s h.2 r)
end
theorem dp_rw (s : Same R H) {v : V} {d : D} (h : layD d = true) (r : Rw T R H v d) : Dp T.K H v (toP d) := by
  cases r with
  | non => simp only [toP]; exact .non
  | bl b => simp only [toP]; exact .bl b
  | int b => simp only [toP]; exact .int b
  | str b => simp only [toP]; exact .str b
  | tup q r => simp only [layD] at h; simp only [toP]; exact .tup q (dps_rd s h r)
  | lst q r => simp only [layD] at h; simp only [toP]; exact .lst (SqL.of q) (dps_rd s h r)
  | dct q r => simp [layD] at h
  | ins q r => simp [layD] at h
  | exc q u r => simp [layD] at h
  | loc a => simp [layD] at h
  | bag => simp [layD] at h
end
section
variable {X : Cx}
def rEqM (K : PySem.W.Frag) : R2 := fun x y H Q => ∃ d e, Dp K H x d ∧ Dp K H y e ∧ d.canLay0 = true ∧ e.canLay0 = true ∧ min d.depth e.depth ≤ 64 ∧ Q (.bl (PyData.eqv d e)) H
def rNeM (K : PySem.W.Frag) : R2 := fun x y H Q => ∃ d e, Dp K H x d ∧ Dp K H y e ∧ d.canLay0 = true ∧ e.canLay0 = true ∧ min d.depth e.depth ≤ 64 ∧ Q (.bl (!PyData.eqv d e)) H
theorem op_eqM (hu : X.A.units + 64 < cLine) : OpR X (compareOp .Eq) (rEqM X.K) := by
  intro pins s σ H x y v u Q I rx ry h
  obtain ⟨d, e, hd, he, sd, se, hm, q⟩ := h
  obtain ⟨as, r1⟩ := Dp.reads I d x v hd rx
  obtain ⟨bs, r2⟩ := Dp.reads I e y u he ry
  exact SeqAt.compareEq_reads r1 r2 sd se (by omega) ⟨.bl _, H, I, rfl, q⟩
theorem op_neM (hu : X.A.units + 64 < cLine) : OpR X (compareOp .NotEq) (rNeM X.K) := by
  intro pins s σ H x y v u Q I rx ry h
  obtain ⟨d, e, hd, he, sd, se, hm, q⟩ := h
  obtain ⟨as, r1⟩ := Dp.reads I d x v hd rx
  obtain ⟨bs, r2⟩ := Dp.reads I e y u he ry
  exact SeqAt.compareNe_reads r1 r2 sd se (by omega) ⟨.bl _, H, I, rfl, q⟩
end

/-! ### operators -/
/-- what follows, over data -/
abbrev To (T : Tb) (μ : Mu) (R H : Hp) (W : Po) (Q : VK) : Prop := ∀ v d μ' R' H', Nx T μ R H μ' R' H' → Rd T R' v d → W d μ' → Q v H'
section
variable {X : Cx} {T : Tb} {μ : Mu} {R H : Hp} {Q : VK} {W : Po} {x y : V} {d e : D}
theorem To.here (t : To T μ R H W Q) (s : Same R H) (b : BagOk T.B R H) (o : StoOk T R H μ) {v : V} {d : D} (r : Rd T R v d) (h : W d μ) : Q v H := t v d μ R H (Nx.refl s b o) r h
theorem To.lst (t : To T μ R H W Q) (s : Same R H) (b : BagOk T.B R H) (o : StoOk T R H μ) {xs : List V} {ds : List D} (r : RdAll T R xs ds) (h : W (.lst ds) μ) : ∀ p, H p = none → Q (.ref p) (upd H p (.lst xs)) := fun p hp => by
  have n := Nx.new s b o hp (.lst xs)
  exact t _ _ _ _ _ n (.lst upd_same (r.mono n.r)) h
theorem To.tup (t : To T μ R H W Q) (s : Same R H) (b : BagOk T.B R H) (o : StoOk T R H μ) {xs : List V} {ds : List D} (r : RdAll T R xs ds) (h : W (.tup ds) μ) : ∀ p, H p = none → Q (.ref p) (upd H p (.tup xs)) := fun p hp => by
  have n := Nx.new s b o hp (.tup xs)
  exact t _ _ _ _ _ n (.tup (SqT.of upd_same) (r.mono n.r)) h
/-- a new list of the store -/
theorem To.own (t : To T μ R H W Q) (s : Same R H) (b : BagOk T.B R H) (o : StoOk T R H μ) {xs : List V} {ds : List D} (r : RdAll T R xs ds) (h : ∀ a, μ a = none → W (.loc a) (μ.set a (.lst ds))) : ∀ p, H p = none → Q (.ref p) (upd H p (.lst xs)) := fun p hp => by
  have n := Nx.put (d := .lst ds) s b o (.inl hp) (u := .lst xs) ⟨xs, upd_same, r⟩
  exact t _ _ _ _ _ n (.loc p) (h p (Nx.mu_some o hp))
theorem rdall_flat {vs : List V} {ds : List D} (r : RdAll T R vs ds) : ∀ k, RdAll T R (List.replicate k vs).flatten (List.replicate k ds).flatten
  | 0 => .nil
  | k + 1 => by
    rw [List.replicate_succ, List.replicate_succ, List.flatten_cons, List.flatten_cons]
    exact r.append (rdall_flat r k)
theorem bin_ok (op : Bop) (hK : T.K = X.K) (s : Same R H) (b : BagOk T.B R H) (o : StoOk T R H μ) (hx0 : Rd T R x d) (hy0 : Rd T R y e) (h : binD op (vw μ d) (vw μ e) fun r => W r μ) (t : To T μ R H W Q) : wpr X (binaryOp op.op) x y H Q := by
  have hx := hx0.rw s o
  have hy := hy0.rw s o
  have ex : ∀ ds, vw μ d = .tup ds → d = .tup ds := fun ds => vw_tup o
  have ey : ∀ ds, vw μ e = .tup ds → e = .tup ds := fun ds => vw_tup o
  generalize vw μ d = d' at h hx ex
  generalize vw μ e = e' at h hy ey
  cases op with
  | add =>
    cases d' <;> cases e' <;> first | exact False.elim h | skip
    · cases hx; cases hy
      exact of_or op_add ⟨_, _, rfl, rfl, t.here s b o (.int _) h⟩
    · cases hx; cases hy
      exact of_or op_add_str ⟨_, _, rfl, rfl, h.1, t.here s b o (.str _) h.2⟩
    · have ex := ex _ rfl
      have ey := ey _ rfl
      subst ex ey
      cases hx with
      | @tup a1 xs1 ds1 q1 r1 =>
      cases hy with
      | @tup a2 xs2 ds2 q2 r2 =>
      refine of_or op_catA ⟨_, _, _, _, rfl, rfl, by rw [← hK]; exact q1, by rw [← hK]; exact q2, by rw [r1.length, r2.length]; exact h.1, fun e1 => ?_, fun _ e2 => ?_, fun _ _ => t.tup s b o (r1.append r2) h.2⟩
      · subst e1; cases r1
        exact t.here s b o hy0 (by simpa using h.2)
      · subst e2; cases r2
        exact t.here s b o hx0 (by simpa using h.2)
    · cases hx with
      | @lst a1 xs1 ds1 q1 r1 =>
      cases hy with
      | @lst a2 xs2 ds2 q2 r2 =>
      exact of_or op_cat ⟨_, _, _, _, rfl, rfl, q1, q2, by rw [r1.length, r2.length]; exact h.1, t.lst s b o (r1.append r2) h.2⟩
  | sub =>
    cases d' <;> cases e' <;> first | exact False.elim h | skip
    cases hx; cases hy
    exact of_or op_sub ⟨_, _, rfl, rfl, t.here s b o (.int _) h⟩
  | mul =>
    cases d' <;> cases e' <;> first | exact False.elim h | skip
    · cases hx; cases hy
      exact of_or op_mul ⟨_, _, rfl, rfl, h.1, t.here s b o (.int _) h.2⟩
    · cases hy
      cases hx with
      | @lst a1 xs1 ds1 q1 r1 =>
      exact of_or op_rep ⟨_, _, _, rfl, rfl, q1, h.1, h.2.1, by rw [r1.length]; exact h.2.2.1, t.lst s b o (rdall_flat r1 _) h.2.2.2⟩
  | fdiv =>
    cases d' <;> cases e' <;> first | exact False.elim h | skip
    cases hx; cases hy
    exact of_or op_fdivW ⟨_, _, rfl, rfl, h.1, t.here s b o (.int _) h.2⟩
  | mod =>
    cases d' <;> cases e' <;> first | exact False.elim h | skip
    cases hx; cases hy
    exact of_or op_mod ⟨_, _, rfl, rfl, h.1, t.here s b o (.int _) h.2⟩
  | pow =>
    cases d' <;> cases e' <;> first | exact False.elim h | skip
    cases hx; cases hy
    exact of_or op_pow ⟨_, _, rfl, rfl, h.1, t.here s b o (.int _) h.2⟩
theorem flat_rd {v : V} {d : D} (f : flatD d = true) (r : Rd T R v d) : flatV v = true ∧ (∀ v' d', flatD d' = true → Rd T R v' d' → eqV v' v = eqD d d' ∧ eqD d d' = eqD d' d) := by
  cases r <;> first | (simp [flatD] at f; done) | skip
  all_goals
    refine ⟨rfl, fun v' d' f' r' => ?_⟩
    cases r' <;> first | (simp [flatD] at f'; done) | skip
    all_goals refine ⟨?_, ?_⟩
    all_goals first | rfl | (simp only [eqV, eqD]; rw [Bool.eq_iff_iff]; simp only [beq_iff_eq]; exact ⟨fun h => h.symm, fun h => h.symm⟩)
theorem any_flat {v : V} {d : D} (f : flatD d = true) (r : Rd T R v d) : ∀ {vs : List V} {ds : List D}, ds.all flatD = true → RdAll T R vs ds → vs.all flatV = true ∧ inV v vs = ds.any fun y => eqD d y
  | [], [], _, _ => ⟨rfl, rfl⟩
  | v' :: vs, d' :: ds, fs, .cons a rs => by
    simp only [List.all_cons, Bool.and_eq_true] at fs
    obtain ⟨h1, h2⟩ := any_flat f r fs.2 rs
    refine ⟨by simp only [List.all_cons, (flat_rd fs.1 a).1, h1, Bool.and_self], ?_⟩
    show (eqV v' v || inV v vs) = _
    rw [h2, ((flat_rd f r).2 v' d' fs.1 a).1]
    rfl
theorem none_rw (hx : Rw T R H x d) : decide (x = .non) = (match d with | .non => true | _ => false) := by
  cases hx <;> simp
theorem cmp_ok (op : Cop) (hK : T.K = X.K) (hu : X.A.units + 64 < cLine) {W : Bool → Prop} (s : Same R H) (o : StoOk T R H μ) (hx0 : Rd T R x d) (hy0 : Rd T R y e) (h : cmpD op (vw μ d) (vw μ e) W) (t : ∀ k, W k → Q (.bl k) H) : wpr X (compareOp op.op) x y H Q := by
  have hx := hx0.rw s o
  have hy := hy0.rw s o
  have hfx : flatD (vw μ d) = true → Rd T R x (vw μ d) := fun f => by
    cases d <;> first | exact hx0 | skip
    rename_i a
    exfalso
    rw [vw_loc] at f
    cases e : μ a with
    | none => rw [e] at f; simp [flatD] at f
    | some d =>
      rw [e] at f
      have c := (o a d e).2.2
      cases d <;> first | exact c.elim | (simp [flatD] at f)
  generalize vw μ d = d' at h hx hfx
  generalize vw μ e = e' at h hy
  cases op with
  | eq =>
    obtain ⟨⟨h1, h2, h3⟩ | hdt, h4⟩ := h
    case inr =>
      cases d' <;> cases e' <;> first | exact absurd hdt Bool.false_ne_true | skip
      cases hx with
      | dct q r =>
      cases hy with
      | tup q' r' =>
      exact of_or (DLQ.op_eqDT hu) ⟨_, _, _, _, rfl, rfl, q, by rw [← hK]; exact q', t _ h4⟩
    refine of_or (op_eqM hu) ⟨_, _, by rw [← hK]; exact dp_rw s h1 hx, by rw [← hK]; exact dp_rw s h2 hy, lay_toP _ h1, lay_toP _ h2, by rw [dep_toP _ h1, dep_toP _ h2]; exact h3, ?_⟩
    rw [eqv_toP _ _ h1 h2]; exact t _ h4
  | ne =>
    obtain ⟨⟨h1, h2, h3⟩, h4⟩ := h
    refine of_or (op_neM hu) ⟨_, _, by rw [← hK]; exact dp_rw s h1 hx, by rw [← hK]; exact dp_rw s h2 hy, lay_toP _ h1, lay_toP _ h2, by rw [dep_toP _ h1, dep_toP _ h2]; exact h3, ?_⟩
    rw [eqv_toP _ _ h1 h2]; exact t _ h4
  | lt =>
    cases d' <;> cases e' <;> first | exact False.elim h | skip
    cases hx; cases hy
    exact of_or op_lt ⟨_, _, rfl, rfl, t _ h⟩
  | le =>
    cases d' <;> cases e' <;> first | exact False.elim h | skip
    cases hx; cases hy
    exact of_or op_le ⟨_, _, rfl, rfl, t _ h⟩
  | gt =>
    cases d' <;> cases e' <;> first | exact False.elim h | skip
    cases hx; cases hy
    exact of_or op_gt ⟨_, _, rfl, rfl, t _ h⟩
  | ge =>
    cases d' <;> cases e' <;> first | exact False.elim h | skip
    cases hx; cases hy
    exact of_or op_ge ⟨_, _, rfl, rfl, t _ h⟩
  | isN =>
    cases e' <;> first | (cases d' <;> exact False.elim h) | skip
    cases hy
    refine of_or op_isN ⟨rfl, ?_⟩
    rw [none_rw hx]
    cases d' <;> exact t _ h
  | notN =>
    cases e' <;> first | (cases d' <;> exact False.elim h) | skip
    cases hy
    refine of_or op_notN ⟨rfl, ?_⟩
    rw [none_rw hx]
    cases d' <;> exact t _ h
  | in_ =>
    cases e' with
    | tup ys =>
      have h' : (flatD d' = true ∧ ys.all flatD = true) ∧ W (ys.any fun y => eqD d' y) := by cases d' <;> exact h
      cases hy with
      | @tup a xs ds q r =>
      obtain ⟨h1, h2⟩ := any_flat h'.1.1 (hfx h'.1.1) h'.1.2 r
      refine of_or op_in_seq ⟨_, _, rfl, .inr (by rw [← hK]; exact q), (flat_rd h'.1.1 (hfx h'.1.1)).1, h1, ?_⟩
      rw [h2]; exact t _ h'.2
    | lst ys =>
      have h' : (flatD d' = true ∧ ys.all flatD = true) ∧ W (ys.any fun y => eqD d' y) := by cases d' <;> exact h
      cases hy with
      | @lst a xs ds q r =>
      obtain ⟨h1, h2⟩ := any_flat h'.1.1 (hfx h'.1.1) h'.1.2 r
      refine of_or op_in_seq ⟨_, _, rfl, .inl (SqL.of q), (flat_rd h'.1.1 (hfx h'.1.1)).1, h1, ?_⟩
      rw [h2]; exact t _ h'.2
    | str z =>
      cases hy
      have h' : ∃ c, d' = .str ⟨#[c]⟩ ∧ W (decide (c ∈ z.cps.toList)) := by
        cases d' <;> first | exact False.elim h | skip
        rename_i u
        obtain ⟨⟨l⟩⟩ := u
        rcases l with _ | ⟨c, _ | ⟨c2, l⟩⟩ <;> first | exact False.elim h | exact ⟨c, rfl, h⟩
      obtain ⟨c, rfl, h'⟩ := h'
      cases hx
      exact of_or op_in_sign ⟨_, _, rfl, rfl, t _ h'⟩
    | _ => exfalso; cases d' <;> exact h
  | notIn =>
    cases e' with
    | tup ys =>
      have h' : (flatD d' = true ∧ ys.all flatD = true) ∧ W (!ys.any fun y => eqD d' y) := by cases d' <;> exact h
      cases hy with
      | @tup a xs ds q r =>
      obtain ⟨h1, h2⟩ := any_flat h'.1.1 (hfx h'.1.1) h'.1.2 r
      refine of_or op_notIn_seq ⟨_, _, rfl, .inr (by rw [← hK]; exact q), (flat_rd h'.1.1 (hfx h'.1.1)).1, h1, ?_⟩
      show Q (.bl (!inV x xs)) H
      rw [h2]; exact t _ h'.2
    | lst ys =>
      have h' : (flatD d' = true ∧ ys.all flatD = true) ∧ W (!ys.any fun y => eqD d' y) := by cases d' <;> exact h
      cases hy with
      | @lst a xs ds q r =>
      obtain ⟨h1, h2⟩ := any_flat h'.1.1 (hfx h'.1.1) h'.1.2 r
      refine of_or op_notIn_seq ⟨_, _, rfl, .inl (SqL.of q), (flat_rd h'.1.1 (hfx h'.1.1)).1, h1, ?_⟩
      show Q (.bl (!inV x xs)) H
      rw [h2]; exact t _ h'.2
    | _ => exfalso; cases d' <;> exact h
end
end MP
set_option maxHeartbeats 4000000
/-! MP: isinstance, built-in functions, methods, subscripts, by the layer's rules; what a program's table says. -/
namespace MP
open PySem PySem.Spec PyProof.Rows L2
/-! ### the classes in the written part -/
def clsB (K : PySem.W.Frag) (C : Addr) : Bool := PySem.W.plainGet K C Str.empty && (PySem.W.hasDictIn K C && (PySem.W.plainOver K C && He.eqO (PySem.W.findIn K (.ref C) "__setattr__") (some (some (.builtin "object.__setattr__")))))
def isoB (K : PySem.W.Frag) (C : Addr) : Bool := He.eqO (PySem.W.findIn K (.ref C) "__class__") (some (some (.builtin "object.__class__"))) &&
  (He.eqO (PySem.W.specialIn K (.builtin "object.__class__") "__get__") (some (some (.builtin "getset_descriptor.__get__"))) && (decide (PySem.W.takesIn K (.builtin "object.__class__") = some true) && decide (PySem.W.mroIn K C (.type "object") = some true)))
structure ClsF (K : PySem.W.Frag) (C : Addr) : Prop where
  cls : Cls K C
  ha : PySem.W.findIn K (.ref C) "__class__" = some (some (.builtin "object.__class__"))
  hn : PySem.W.specialIn K (.builtin "object.__class__") "__get__" = some (some (.builtin "getset_descriptor.__get__"))
  htk : PySem.W.takesIn K (.builtin "object.__class__") = some true
  hm : PySem.W.mroIn K C (.type "object") = some true
theorem cls_ok {K : PySem.W.Frag} {C : Addr} (h : (clsB K C && isoB K C) = true) : ClsF K C := by
  obtain ⟨a, b⟩ := He.ba h
  obtain ⟨c1, a⟩ := He.ba a
  obtain ⟨c2, a⟩ := He.ba a
  obtain ⟨c3, c4⟩ := He.ba a
  obtain ⟨d1, b⟩ := He.ba b
  obtain ⟨d2, b⟩ := He.ba b
  obtain ⟨d3, d4⟩ := He.ba b
  exact ⟨⟨c1, c2, c3, He.eqO_ok c4⟩, He.eqO_ok d1, He.eqO_ok d2, of_decide_eq_true d3, of_decide_eq_true d4⟩
def tyNs : List String := ["NoneType", "bool", "int", "str", "tuple", "list", "dict"]
/-- what a program's classes are, in the written part -/
structure PrC (P : Prog) (K : PySem.W.Frag) : Prop where
  cls : ∀ c, c < P.cls.length → ClsF K (He.ga K (clsName P c))
  kit : ∀ c t, c < P.cls.length → t ∈ tyNs → PySem.W.kitOne K (.type t) (.ref (He.ga K (clsName P c))) = some false
  kitC : ∀ c c', c < P.cls.length → c' < P.cls.length → PySem.W.kitOne K (.ref (He.ga K (clsName P c))) (.ref (He.ga K (clsName P c'))) = some (decide (c = c'))
  kitT : ∀ c (t : Ty), c < P.cls.length → PySem.W.kitOne K (.ref (He.ga K (clsName P c))) (.type t.name) = some false
  ne : ∀ c c', c < P.cls.length → c' < P.cls.length → He.ga K (clsName P c) = He.ga K (clsName P c') → c = c'
  meth : ∀ c r m f, P.cls[c]? = some r → (m, f) ∈ r.meths → Meth K (He.ga K (clsName P c)) ((P.an[m]?).getD Str.empty) (He.ma K (He.ga K (clsName P c)) ((P.an[m]?).getD Str.empty))
  fi : ∀ c r m f, P.cls[c]? = some r → (m, f) ∈ r.meths → PySem.W.fnIn K (He.ma K (He.ga K (clsName P c)) ((P.an[m]?).getD Str.empty)) = true
  sf : ∀ c, c < P.cls.length → PySem.W.selfFirst K (He.ga K (clsName P c)) = true
  mkr : ∀ c, c < P.cls.length → Mk K (He.ga K (clsName P c)) (He.ma K (He.ga K (clsName P c)) "__init__")
  fld : ∀ c r f, P.cls[c]? = some r → f ∈ r.flds → NoAttr K (He.ga K (clsName P c)) ((P.an[f]?).getD Str.empty)

/-! ### isinstance -/
def tyOf : D → String
  | .non => "NoneType" | .bl _ => "bool" | .int _ => "int" | .str _ => "str" | .tup _ => "tuple" | .lst _ => "list" | .dct _ => "dict" | _ => "list"
def isObj : D → Bool
  | .ins _ _ | .exc _ _ | .loc _ | .bag => true
  | _ => false
section
variable {X : Cx} {T : Tb} {μ : Mu} {R H : Hp} {Q : VK} {W : Po} {x y : V} {d e : D}
theorem tyx_rw (hx : Rw T R H x d) (hd : isObj d = false) : TyX T.K H x (.type (tyOf d)) := by
  cases hx with
  | non => exact .base .non
  | bl b => exact .base (.bl b)
  | int i => exact .base (.int i)
  | str z => exact .base (.str z)
  | tup q r =>
    rcases q with (q | ⟨o, q⟩) | ⟨o, its, n, q, c, _⟩
    · exact .base (.tup q)
    · exact .fTuple q
    · exact .kTuple q c
  | lst q r => exact .base (.lst q)
  | dct q r => exact .base (.dK q)
  | ins q r => cases hd
  | exc q u r => cases hd
  | loc a => cases hd
  | bag => cases hd
theorem tyx_ins {c : Nat} {fs : List (Nat × D)} (hx : Rw T R H x (.ins c fs)) (k : ClsF T.K (T.ca c)) : TyX T.K H x (.ref (T.ca c)) := by
  cases hx with
  | ins q r => exact .base (.ins q k.cls k.ha k.hn k.htk k.hm)
theorem kit_d (hd : isObj d = false) (t : Ty) : kitB (tyOf d) t.name = some (isiD d t) := by
  cases d <;> cases t <;> first | (simp [isObj] at hd; done) | (simp only [tyOf, Ty.name, isiD]; decide +kernel)
theorem kits_d {K : PySem.W.Frag} (hd : isObj d = false) : ∀ ts : List Ty, PySem.W.kitAny K (.type (tyOf d)) (ts.map fun t => Value.type t.name) = some (ts.any fun t => isiD d t)
  | [] => kitAny_nil
  | t :: ts => by
    refine kitAny_cons (kit_ty (kit_d hd t)) (fun e => ?_) (fun e => ?_)
    · rw [List.any_cons, e, Bool.false_or]; exact kits_d hd ts
    · rw [List.any_cons, e, Bool.true_or]
theorem ty_mem (hd : isObj d = false) : tyOf d ∈ tyNs := by
  cases d <;> first | (simp [isObj] at hd; done) | simp [tyOf, tyNs]

/-! ### built-in functions -/
theorem rwall1 {vs : List V} {d : D} (r : RwAll T R H vs [d]) : ∃ v, vs = [v] ∧ Rw T R H v d := by
  cases r with
  | cons a r => cases r; exact ⟨_, rfl, a⟩
theorem rdall1 {vs : List V} {d : D} (r : RdAll T R vs [d]) : ∃ v, vs = [v] ∧ Rd T R v d := by
  cases r with
  | cons a r => cases r; exact ⟨_, rfl, a⟩
theorem flat_all : ∀ {ds : List D} {bs : List Bool}, flatTs ds = some bs → ds.length = bs.length ∧ ∀ i d, ds[i]? = some d → flatT d = some (bs.getD i false)
  | [], bs, h => by simp only [flatTs, Option.some.injEq] at h; subst h; exact ⟨rfl, fun i d e => by simp at e⟩
  | d :: ds, bs, h => by
    simp only [flatTs] at h
    cases e1 : flatT d with
    | none => rw [e1] at h; cases h
    | some b =>
      cases e2 : flatTs ds with
      | none => rw [e1, e2] at h; cases h
      | some bs' =>
        rw [e1, e2] at h
        simp only [Option.some.injEq] at h
        subst h
        obtain ⟨l, f⟩ := flat_all e2
        refine ⟨by simp [l], fun i x e => ?_⟩
        cases i with
        | zero => simp at e; subst e; simpa using e1
        | succ i => simpa using f i x (by simpa using e)
theorem truth_flat {P : Program} {w : World} {A : Around} {vs : List V} {its : List Value} {ds : List D} {bs : List Bool} (rv : Vals vs its) (r : RdAll T R vs ds) (h : flatTs ds = some bs) :
    TruthOf P w A (fun i v => its.toArray[i]? = some v) (fun i => bs.getD i false) := fun i v s Q E hv hq => by
  have hv' : its[i]? = some v := by simpa using hv
  have hi : i < vs.length := by
    rw [rv.length]; exact (List.getElem?_eq_some_iff.mp hv').1
  have hx : vs[i]? = some vs[i] := List.getElem?_eq_getElem hi
  obtain ⟨u, hu, ru⟩ := rv.get hx
  rw [hv'] at hu
  cases hu
  obtain ⟨d, hd, rd⟩ := r.get hx
  have e := (flat_all h).2 i d hd
  generalize hz : vs[i] = z at ru rd
  cases rd <;> simp only [flatT, Option.some.injEq] at e <;> first | cases e; done | skip
  · cases ru; refine truthy_none ?_; rw [e]; exact hq
  · cases ru; refine wpAny_truthy_bool ?_; rw [e]; exact hq
  · obtain ⟨t, rfl⟩ := ru; refine PySem.P.truthy_int ?_; rw [e]; exact hq
theorem iter_anyT {prog : Program} {w : World} {A : Around} {E : Value → Shared → Prop} {s : Shared} {l : Addr} {items : Array Value} {Q : Value → Shared → Prop} (hl : s.heap.IsTuple l items)
    (h : ∀ s₂ : Shared, s₂ = { s with heap := s.heap.push { cls := .type "tuple_iterator", data := .fields #[.ref l, .int 0 0] } } →
      (s₂.heap.IsTupleIter s.heap.objs.size l 0 ∧ s₂.heap.IsTuple l items) → l ≠ s.heap.objs.size → Q (.ref s.heap.objs.size) s₂) : wpAny (model prog w) A (pyIter (.ref l)) Q E s := by
  have hlt : l < s.heap.objs.size := by obtain ⟨_, e, _⟩ := hl; exact Heap.lt_size e
  refine wpAny_pyIter_tuple hl (h _ rfl ⟨⟨_, Heap.get?_push_size _ rfl, rfl, rfl⟩, ?_⟩ (Nat.ne_of_lt hlt))
  obtain ⟨o, e, c⟩ := hl
  exact ⟨o, Heap.get?_push_of_some _ e, c⟩
def rAA (T : Tb) (f : List Bool → Bool) : List V → Hp → VK → Prop := fun vs H Q => ∃ (a : Addr) (xs : List V) (R : Hp) (ds : List D) (bs : List Bool), vs = [V.ref a] ∧ (SqL T.K H a xs ∨ SqT T.K H a xs) ∧ RdAll T R xs ds ∧ flatTs ds = some bs ∧ Q (.bl (f bs)) H
theorem cr_anyA (hK : T.K = X.K) (hc : X.calm = true) : CallR X (.builtin "any") (rAA T fun bs => bs.any id) := by
  intro pins s σ H vs us Q I r h
  obtain ⟨a, xs, R, ds, bs, rfl, hs, hr, hf, q⟩ := h
  rw [hK] at hs
  have hlen : ∀ its : List Value, Vals xs its → its.length = bs.length := fun its rv => by rw [← rv.length, hr.length, (flat_all hf).1]
  rcases hs with hs | hs
  · obtain ⟨its, rv, hl, _⟩ := I.list hs
    rw [Vals.ref1 r]
    refine call_any_walk (iter_any hl.isList fun s₂ e2 st hne => ?_)
    subst e2
    refine ⟨_, _, _, _, _, _, _, rfl, Walks.list (A := X.A.in1) (I.ok.hd hc) _ a hne its.toArray, st, truth_flat rv hr hf, fun h' tk hk => ?_⟩
    refine ⟨.bl _, H, I.kept fun b o eo => hk b o (fun hmem => ?_) (Heap.get?_push_of_some _ eo), ?_, q⟩
    · rcases List.mem_cons.mp hmem with e1 | hmem
      · exact absurd (e1 ▸ Heap.lt_size eo) (Nat.lt_irrefl _)
      · cases hmem
    · show Value.bool _ = Value.bool _
      rw [List.size_toArray, hlen its rv, L2.any_range]
  · obtain ⟨its, rv, hl, _⟩ := I.tuple hs
    rw [Vals.ref1 r]
    refine call_any_walk (iter_anyT (show s.heap.IsTuple a its.toArray from hl) fun s₂ e2 st hne => ?_)
    subst e2
    refine ⟨_, _, _, _, _, _, _, rfl, Walks.tuple (A := X.A.in1) (I.ok.hd hc) _ a hne its.toArray, st, truth_flat rv hr hf, fun h' tk hk => ?_⟩
    refine ⟨.bl _, H, I.kept fun b o eo => hk b o (fun hmem => ?_) (Heap.get?_push_of_some _ eo), ?_, q⟩
    · rcases List.mem_cons.mp hmem with e1 | hmem
      · exact absurd (e1 ▸ Heap.lt_size eo) (Nat.lt_irrefl _)
      · cases hmem
    · show Value.bool _ = Value.bool _
      rw [List.size_toArray, hlen its rv, L2.any_range]
theorem cr_allA (hK : T.K = X.K) (hc : X.calm = true) : CallR X (.builtin "all") (rAA T fun bs => bs.all id) := by
  intro pins s σ H vs us Q I r h
  obtain ⟨a, xs, R, ds, bs, rfl, hs, hr, hf, q⟩ := h
  rw [hK] at hs
  have hlen : ∀ its : List Value, Vals xs its → its.length = bs.length := fun its rv => by rw [← rv.length, hr.length, (flat_all hf).1]
  rcases hs with hs | hs
  · obtain ⟨its, rv, hl, _⟩ := I.list hs
    rw [Vals.ref1 r]
    refine call_all_walk (iter_any hl.isList fun s₂ e2 st hne => ?_)
    subst e2
    refine ⟨_, _, _, _, _, _, _, rfl, Walks.list (A := X.A.in1) (I.ok.hd hc) _ a hne its.toArray, st, truth_flat rv hr hf, fun h' tk hk => ?_⟩
    refine ⟨.bl _, H, I.kept fun b o eo => hk b o (fun hmem => ?_) (Heap.get?_push_of_some _ eo), ?_, q⟩
    · rcases List.mem_cons.mp hmem with e1 | hmem
      · exact absurd (e1 ▸ Heap.lt_size eo) (Nat.lt_irrefl _)
      · cases hmem
    · show Value.bool _ = Value.bool _
      rw [List.size_toArray, hlen its rv, L2.all_range]
  · obtain ⟨its, rv, hl, _⟩ := I.tuple hs
    rw [Vals.ref1 r]
    refine call_all_walk (iter_anyT (show s.heap.IsTuple a its.toArray from hl) fun s₂ e2 st hne => ?_)
    subst e2
    refine ⟨_, _, _, _, _, _, _, rfl, Walks.tuple (A := X.A.in1) (I.ok.hd hc) _ a hne its.toArray, st, truth_flat rv hr hf, fun h' tk hk => ?_⟩
    refine ⟨.bl _, H, I.kept fun b o eo => hk b o (fun hmem => ?_) (Heap.get?_push_of_some _ eo), ?_, q⟩
    · rcases List.mem_cons.mp hmem with e1 | hmem
      · exact absurd (e1 ▸ Heap.lt_size eo) (Nat.lt_irrefl _)
      · cases hmem
    · show Value.bool _ = Value.bool _
      rw [List.size_toArray, hlen its rv, L2.all_range]
theorem ints_of : ∀ {ds : List D} {ns : List Int}, intsD ds = some ns → ds = ns.map D.int
  | [], ns, h => by simp only [intsD, Option.some.injEq] at h; subst h; rfl
  | d :: ds, ns, h => by
    cases d <;> simp only [intsD] at h <;> first | cases h; done | skip
    rename_i i
    cases e : intsD ds with
    | none => rw [e] at h; cases h
    | some ms =>
      rw [e] at h
      simp only [Option.map_some, Option.some.injEq] at h
      subst h
      rw [ints_of e]; rfl
theorem strs_of : ∀ {ds : List D} {ns : List Str}, strsD ds = some ns → ds = ns.map D.str
  | [], ns, h => by simp only [strsD, Option.some.injEq] at h; subst h; rfl
  | d :: ds, ns, h => by
    cases d <;> simp only [strsD] at h <;> first | cases h; done | skip
    rename_i i
    cases e : strsD ds with
    | none => rw [e] at h; cases h
    | some ms =>
      rw [e] at h
      simp only [Option.map_some, Option.some.injEq] at h
      subst h
      rw [strs_of e]; rfl
def Bf.v : Bf → Value
  | .len => .builtin "len" | .all => .builtin "all" | .any => .builtin "any" | .tuple => .type "tuple" | .list => .type "list" | .int => .type "int" | .abs => .builtin "abs" | .sum => .builtin "sum" | .max => .builtin "max" | .min => .builtin "min" | .sorted => .builtin "sorted" | .str => .type "str"
theorem b_nil (b : Bf) {W : D → Prop} (h : bD b [] W) : False := by
  cases b <;> exact h
theorem b_ok (f : Bf) (hK : T.K = X.K) (hc : X.calm = true) {vs : List V} {ds : List D} (s : Same R H) (b : BagOk T.B R H) (o : StoOk T R H μ) (hr0 : RdAll T R vs ds) (h : bD f (ds.map (vw μ)) fun d => W d μ) (t : To T μ R H W Q) : wpc X f.v vs H Q := by
  cases ds with
  | nil => exact (b_nil f h).elim
  | cons d ds =>
  cases ds with
  | cons d2 ds =>
    cases ds with
    | cons d3 ds =>
      simp only [List.map_cons] at h
      generalize vw μ d = a at h
      cases f <;> cases a <;> first | exact False.elim h | (exfalso; generalize vw μ d2 = b at h; cases b <;> exact h)
    | nil =>
      simp only [List.map_cons, List.map_nil] at h
      cases hr0 with
      | cons r1 r2 =>
      cases r2 with
      | cons r2 r3 =>
      cases r3
      cases e1 : vw μ d <;> cases e2 : vw μ d2 <;> rw [e1, e2] at h <;> cases f <;> first | exact False.elim h | skip
      · have z1 := vw_int o e1
        have z2 := vw_int o e2
        subst z1 z2
        cases r1; cases r2
        exact of_cr (call_max2 hc) ⟨_, _, rfl, t.here s b o (.int _) h⟩
      · have z1 := vw_int o e1
        have z2 := vw_int o e2
        subst z1 z2
        cases r1; cases r2
        exact of_cr (call_min2 hc) ⟨_, _, rfl, t.here s b o (.int _) h⟩
  | nil =>
  obtain ⟨v, rfl, r0⟩ := rdall1 hr0
  simp only [List.map_cons, List.map_nil] at h
  have r := r0.rw s o
  have et : ∀ ds, vw μ d = .tup ds → d = .tup ds := fun ds => vw_tup o
  generalize vw μ d = d' at h r et
  cases f with
  | len =>
    cases d' <;> first | exact False.elim h | skip
    · cases r
      exact of_cr call_len ⟨_, _, rfl, ⟨h.1, rfl⟩, t.here s b o (.int _) h.2⟩
    · cases r with
      | tup q r =>
      exact of_cr call_len ⟨_, _, rfl, .inr ⟨_, by rw [← hK]; exact q, rfl⟩, by rw [r.length]; exact t.here s b o (.int _) h⟩
    · cases r with
      | lst q r =>
      exact of_cr call_len ⟨_, _, rfl, .inl ⟨_, SqL.of q, rfl⟩, by rw [r.length]; exact t.here s b o (.int _) h⟩
    · cases r with
      | dct q r =>
      exact of_cr call_lenD ⟨_, _, rfl, q, by rw [r.length]; exact t.here s b o (.int _) h⟩
  | all =>
    cases d' <;> first | exact False.elim h | skip
    · rename_i xs
      cases r with
      | tup q r =>
      cases e : flatTs xs with
      | none => simp only [bD, e] at h
      | some bs => simp only [bD, e] at h; exact of_cr (cr_allA hK hc) ⟨_, _, R, _, _, rfl, .inr q, r, e, t.here s b o (.bl _) h⟩
    · rename_i xs
      cases r with
      | lst q r =>
      cases e : flatTs xs with
      | none => simp only [bD, e] at h
      | some bs => simp only [bD, e] at h; exact of_cr (cr_allA hK hc) ⟨_, _, R, _, _, rfl, .inl (SqL.of q), r, e, t.here s b o (.bl _) h⟩
  | any =>
    cases d' <;> first | exact False.elim h | skip
    · rename_i xs
      cases r with
      | tup q r =>
      cases e : flatTs xs with
      | none => simp only [bD, e] at h
      | some bs => simp only [bD, e] at h; exact of_cr (cr_anyA hK hc) ⟨_, _, R, _, _, rfl, .inr q, r, e, t.here s b o (.bl _) h⟩
    · rename_i xs
      cases r with
      | lst q r =>
      cases e : flatTs xs with
      | none => simp only [bD, e] at h
      | some bs => simp only [bD, e] at h; exact of_cr (cr_anyA hK hc) ⟨_, _, R, _, _, rfl, .inl (SqL.of q), r, e, t.here s b o (.bl _) h⟩
  | tuple =>
    cases d' <;> first | exact False.elim h | skip
    · have et := et _ rfl
      subst et
      cases r with
      | tup q r => exact of_cr call_tuple_of ⟨_, _, rfl, .inr ⟨by rw [← hK]; exact q, t.here s b o r0 h⟩⟩
    · cases r with
      | lst q r => exact of_cr call_tuple_of ⟨_, _, rfl, .inl ⟨SqL.of q, t.tup s b o r h⟩⟩
  | list =>
    cases d' <;> first | exact False.elim h | skip
    · cases r with
      | tup q r => exact of_cr call_list_of ⟨_, _, rfl, .inr (by rw [← hK]; exact q), t.lst s b o r h⟩
    · cases r with
      | lst q r => exact of_cr call_list_of ⟨_, _, rfl, .inl (SqL.of q), t.lst s b o r h⟩
  | int =>
    cases d' <;> first | exact False.elim h | skip
    cases r
    exact of_cr call_int1 (.inl ⟨_, rfl, t.here s b o (.int _) h⟩)
  | abs =>
    cases d' <;> first | exact False.elim h | skip
    cases r
    exact of_cr call_abs ⟨_, rfl, t.here s b o (.int _) h⟩
  | str =>
    cases d' <;> first | exact False.elim h | skip
    cases r
    exact of_cr call_str_int ⟨_, rfl, h.1, t.here s b o (.str _) h.2⟩
  | sum =>
    cases d' <;> first | exact False.elim h | skip
    rename_i xs
    cases e : intsD xs with
    | none => simp only [bD, e] at h
    | some ns =>
      simp only [bD, e] at h
      have e' := ints_of e
      subst e'
      cases r with
      | lst q r =>
      have e2 := r.ints
      subst e2
      exact of_cr (cr_sum hc) ⟨_, _, rfl, SqL.of q, t.here s b o (.int _) h⟩
  | max =>
    cases d' <;> first | exact False.elim h | skip
    rename_i xs
    cases e : intsD xs with
    | none => simp only [bD, e] at h
    | some ns =>
      simp only [bD, e] at h
      have e' := ints_of e
      subst e'
      cases r with
      | lst q r =>
      have e2 := r.ints
      subst e2
      exact of_cr (cr_max hc) ⟨_, _, rfl, SqL.of q, List.length_pos_iff.mpr h.1, fun m h1 h2 => t.here s b o (.int _) (h.2 m h1 h2)⟩
  | min =>
    cases d' <;> first | exact False.elim h | skip
    rename_i xs
    cases e : intsD xs with
    | none => simp only [bD, e] at h
    | some ns =>
      simp only [bD, e] at h
      have e' := ints_of e
      subst e'
      cases r with
      | lst q r =>
      have e2 := r.ints
      subst e2
      exact of_cr (cr_min hc) ⟨_, _, rfl, SqL.of q, List.length_pos_iff.mpr h.1, fun m h1 h2 => t.here s b o (.int _) (h.2 m h1 h2)⟩
  | sorted =>
    cases d' <;> first | exact False.elim h | skip
    rename_i xs
    cases e : intsD xs with
    | none => simp only [bD, e] at h
    | some ns =>
      simp only [bD, e] at h
      have e' := ints_of e
      subst e'
      cases r with
      | lst q r =>
      have e2 := r.ints
      subst e2
      exact of_cr cr_sortedI ⟨_, _, rfl, SqL.of q, fun ns' p h1 h2 hp => t.lst s b o (RdAll.of_ints ns') (h ns' h1 h2) p hp⟩

/-! ### subscripts, slices -/
theorem atI_rd {xs : List V} {ds : List D} (r : RdAll T R xs ds) {i : Int} {d : D} (h : atI ds i = some d) : ∃ v, atI xs i = some v ∧ Rd T R v d := by
  unfold atI at h ⊢
  rw [← r.length] at h
  cases e : ixN xs.length i with
  | none => rw [e] at h; cases h
  | some j =>
    rw [e] at h
    exact r.get' h
theorem sub_r (hK : T.K = X.K) (s : Same R H) (b : BagOk T.B R H) (o : StoOk T R H μ) (hx0 : Rd T R x d) (hy : Rd T R y e) (h : subD (vw μ d) e fun d => W d μ) (t : To T μ R H W Q) : rIx X.K x y H Q := by
  have hx := hx0.rw s o
  generalize vw μ d = d' at h hx
  cases d' <;> cases e <;> first | exact False.elim h | skip
  · cases hx; cases hy
    rename_i z i
    obtain ⟨h1, h2⟩ := h
    cases e1 : atI z.cps.toList i with
    | none => simp only [e1] at h2
    | some c => simp only [e1] at h2; exact .inr (.inr ⟨_, _, _, rfl, rfl, h1, e1, t.here s b o (.str _) h2⟩)
  · cases hy
    rename_i xs i
    cases hx with
    | tup q r =>
    cases e1 : atI xs i with
    | none => simp only [subD, e1] at h
    | some c =>
      simp only [subD, e1] at h
      obtain ⟨v, e2, rv⟩ := atI_rd r e1
      exact .inr (.inl ⟨_, _, _, _, rfl, rfl, by rw [← hK]; exact q, e2, t.here s b o rv h⟩)
  · cases hy
    rename_i xs i
    cases hx with
    | lst q r =>
    cases e1 : atI xs i with
    | none => simp only [subD, e1] at h
    | some c =>
      simp only [subD, e1] at h
      obtain ⟨v, e2, rv⟩ := atI_rd r e1
      exact .inl ⟨_, _, _, _, rfl, rfl, SqL.of q, e2, t.here s b o rv h⟩
theorem cut_rd {xs : List V} {ds : List D} (r : RdAll T R xs ds) (lo hi : Option Int) : RdAll T R (cutV xs lo hi) (cutD ds lo hi) := by
  unfold cutV cutD
  rw [r.length]
  exact (r.drop _).take _
def rSlAny (K : PySem.W.Frag) : V → Option Int → Option Int → Hp → VK → Prop := fun x lo hi H Q => rSlL K x lo hi H Q ∨ (rSlA K x lo hi H Q ∨ rSlS x lo hi H Q)
theorem sl_any : SlR X (rSlAny X.K) := sl_list.or (sl_tupA.or sl_str)
theorem sl_r {lo hi : Option Int} (hK : T.K = X.K) (s : Same R H) (b : BagOk T.B R H) (o : StoOk T R H μ) (hx0 : Rd T R x d) (h : slD (vw μ d) lo hi fun d => W d μ) (t : To T μ R H W Q) : rSlAny X.K x lo hi H Q := by
  have hx := hx0.rw s o
  have et : ∀ ds, vw μ d = .tup ds → d = .tup ds := fun ds => vw_tup o
  generalize vw μ d = d' at h hx et
  cases d' <;> first | exact False.elim h | skip
  · cases hx
    exact .inr (.inr ⟨_, rfl, h.1, t.here s b o (.str _) h.2⟩)
  · rename_i ds
    have et := et _ rfl
    subst et
    cases hx with
    | @tup a xs _ q r =>
    refine .inr (.inl ⟨_, _, rfl, by rw [← hK]; exact q, fun hw => ?_, fun _ => t.tup s b o (cut_rd r lo hi) h⟩)
    refine t.here s b o hx0 ?_
    have h' : W (.tup (cutD ds lo hi)) μ := h
    unfold cutD at h'
    rw [← r.length, hw.1, hw.2] at h'
    simpa [r.length] using h'
  · cases hx with
    | @lst a xs ds q r => exact .inl ⟨_, _, rfl, SqL.of q, t.lst s b o (cut_rd r lo hi) h⟩
end
end MP
set_option maxHeartbeats 4000000
/-! MP: where a text's code runs; names, targets, what is walked. -/
namespace MP
open PySem PySem.Spec PyProof.Rows L2
def pad (i : Nat) : Str := ⟨(List.replicate (i + 1000) 0).toArray⟩
def anF (L : List Str) (i : Nat) : Str := (L[i]?).getD (pad i)
def anB (L : List Str) : Bool := decide L.Nodup && L.all fun x => decide (x.cps.size < 1000)
theorem an_inj {L : List Str} (h : anB L = true) : ∀ i j, anF L i = anF L j → i = j := by
  simp only [anB, Bool.and_eq_true, decide_eq_true_eq, List.all_eq_true] at h
  obtain ⟨nd, sh⟩ := h
  have pl : ∀ i, (pad i).cps.size = i + 1000 := fun i => by simp [pad]
  intro i j e
  unfold anF at e
  by_cases hi : i < L.length
  · rw [List.getElem?_eq_getElem hi] at e
    have h1 := sh _ (List.getElem_mem hi)
    by_cases hj : j < L.length
    · rw [List.getElem?_eq_getElem hj] at e
      simp only [Option.getD_some] at e
      exact (List.getElem_inj nd).mp e
    · rw [List.getElem?_eq_none (Nat.le_of_not_lt hj)] at e
      simp only [Option.getD_some, Option.getD_none] at e
      rw [e, pl] at h1; omega
  · rw [List.getElem?_eq_none (Nat.le_of_not_lt hi)] at e
    by_cases hj : j < L.length
    · have h1 := sh _ (List.getElem_mem hj)
      rw [List.getElem?_eq_getElem hj] at e
      simp only [Option.getD_some, Option.getD_none] at e
      rw [← e, pl] at h1; omega
    · rw [List.getElem?_eq_none (Nat.le_of_not_lt hj)] at e
      simp only [Option.getD_none] at e
      have := congrArg (fun x : Str => x.cps.size) e
      simp only [pl] at this; omega
abbrev PInj (P : Prog) : Prop := ∀ i j, anF P.an i = anF P.an j → i = j
def Prog.tb (P : Prog) (hi : PInj P) (K : PySem.W.Frag) (B : Addr) : Tb := ⟨K, B, fun c => He.ga K (clsName P c), anF P.an, hi⟩
def blN : List Str := ["len", "all", "any", "tuple", "list", "int", "abs", "sum", "max", "min", "sorted", "str", "isinstance", "range", "zip", "enumerate", "bool", "dict"]
/-- what the head has left -/
structure Facts (P : Prog) (K : PySem.W.Frag) (mg : Str → Option Value) : Prop where
  cls : PrC P K
  bl : ∀ x, x ∈ blN → mg x = none
  gc : ∀ x d, (x, d) ∈ P.consts → ∃ (v : V) (u : Value), mg x = some u ∧ RelV v u ∧ ∀ (T : Tb) (R : Hp), T.K = K → Rd T R v d.d
  row : ∀ (f : Nat) (r : Row), P.rows[f]? = some r → r.at_.2 = none → mg r.at_.1 = some (.ref (He.ga K r.at_.1))
  cl : ∀ c, c < P.cls.length → mg (clsName P c) = some (.ref (He.ga K (clsName P c)))
  kp : ∀ (f : Nat) (r : Row), P.rows[f]? = some r → PySem.W.keepIn K (.ref (He.fAd K r.at_)) = true
/-- an exception that leaves a call -/
abbrev ToX (T : Tb) (μ : Mu) (R H : Hp) (X : Po) (E : XK) : Prop := ∀ (c : Nat) (fs : List (Nat × D)) (μ' : Mu) (R' H' : Hp) (dx : Addr) (vs : List (Str × V)), Nx T μ R H μ' R' H' → H' dx = some (.xd vs) → RdF T R' vs fs → X (.exc c fs) μ' → E (.ref (T.ca c)) (some dx) H'
section
variable (P : Prog) (hi : PInj P)
/-- a def of the table keeps its promise -/
def CallOk (Pg : Program) (w : World) (K : PySem.W.Frag) (mg : Str → Option Value) (base : Heap) (k f : Nat) (p : Prm) : Prop :=
  ∃ r, P.rows[f]? = some r ∧ ∀ (B : Addr) (A : Around) (outer : List Env) (s : Shared) (H : Hp) (us : List Value) (vs : List V) (ks : List Str) (ws : List Value) (zs : List V) (ds es : List D) (n : Nat) (star : Bool) (pl : List Pl) (μ : Mu) (R : Hp) (X W : Po) (Q : VK) (E : XK),
    Room k A → Env0 Pg w K mg base A outer s H → Vals vs us → Vals zs ws → planOk r.sig n star ks pl = true → (us.length = n ∨ (star = true ∧ n ≤ us.length)) → ws.length = ks.length → Same R H → BagOk B R H → StoOk (P.tb hi K B) R H μ →
    RdAll (P.tb hi K B) R vs ds → RdAll (P.tb hi K B) R zs es → pick ds es pl (fun l => p l μ X W) → To (P.tb hi K B) μ R H W Q → ToX (P.tb hi K B) μ R H X E →
    codeAny (model Pg w) A (.call (.ref (He.fAd K r.at_)) ⟨us, ks.zip ws⟩) (CR (L2.CX Pg w) outer Pg w H s Q E) s
structure SgOk (Γ : Sg) (k : Nat) (Pg : Program) (w : World) (K : PySem.W.Frag) (mg : Str → Option Value) (base : Heap) : Prop where
  fn : ∀ f p, Γ.fn f = some p → CallOk P hi Pg w K mg base k f p
  fa : Facts P K mg
  nc : Γ.nc = P.cls.length
structure StX (Γ : Sg) (k : Nat) (N : List Str) (sc st : Scope) (X : Cx) (B : Addr) (μ0 : Mu) (R0 H0 : Hp) : Prop where
  hN : X.N = N
  hs : X.env.scope = sc
  kd : sc.kind = .function
  nd : N.Nodup
  calm : X.calm = true
  room : Room (k + 1) X.A
  fn : ∀ x, Loc st x → Loc sc x ∧ (X.fn x = true ∨ sc.names.lookup x = some .local)
  sg : SgOk P hi Γ k X.prog X.w X.K X.mg X.base
  ex : ∃ Wx : WX, Takes X Wx ∧ ∀ σ, ToX (P.tb hi X.K B) μ0 R0 H0 Γ.ex fun cls d H => Wx cls d σ H
end
theorem relS_eq (scope : Scope) (env : Env) : relabel scope env = relS scope env.scope := rfl
theorem relS_cell {sc : Scope} : ∀ {names : List (Str × NameKind)} {x : Str}, names.lookup x = some .cell →
    (names.map fun (n, k) => if (k == NameKind.free && sc.kind == .function && sc.names.lookup n == some .cell) then (n, NameKind.cell) else (n, k)).lookup x = some .cell
  | [], _, h => by simp at h
  | (n, k) :: r, x, h => by
    show List.lookup x ((if (k == NameKind.free && sc.kind == .function && sc.names.lookup n == some .cell) = true then (n, NameKind.cell) else (n, k)) :: _) = _
    by_cases e : x = n
    · subst e
      have hk : k = .cell := by simpa [List.lookup] using h
      subst hk
      split <;> simp [List.lookup]
    · have e' : (x == n) = false := by simpa using e
      have h' : r.lookup x = some .cell := by simpa [List.lookup, e'] using h
      have ih := relS_cell (sc := sc) h'
      split <;> (simp only [List.lookup, e']; exact ih)
theorem relS_local {sc : Scope} : ∀ {names : List (Str × NameKind)} {x : Str}, names.lookup x = some .local →
    (names.map fun (n, k) => if (k == NameKind.free && sc.kind == .function && sc.names.lookup n == some .cell) then (n, NameKind.cell) else (n, k)).lookup x = some .local
  | [], _, h => by simp at h
  | (n, k) :: r, x, h => by
    show List.lookup x ((if (k == NameKind.free && sc.kind == .function && sc.names.lookup n == some .cell) = true then (n, NameKind.cell) else (n, k)) :: _) = _
    by_cases e : x = n
    · subst e
      have hk : k = .local := by simpa [List.lookup] using h
      subst hk
      split
      · rename_i hh; simp at hh
      · simp [List.lookup]
    · have e' : (x == n) = false := by simpa using e
      have h' : r.lookup x = some .local := by simpa [List.lookup, e'] using h
      have ih := relS_local (sc := sc) h'
      split <;> (simp only [List.lookup, e']; exact ih)
section
variable {P : Prog} {hi : PInj P} {Γ : Sg} {k : Nat} {N : List Str} {sc st : Scope} {X : Cx} {B : Addr} {μ0 : Mu} {R0 H0 : Hp}
theorem StX.hu (S : StX P hi Γ k N sc st X B μ0 R0 H0) : X.A.units + 64 < cLine := S.room.units
theorem StX.glob (S : StX P hi Γ k N sc st X B μ0 R0 H0) {x : Str} (h : globB sc x = true) : Gl X x ∧ (x == ("__debug__" : Str)) = false := by
  unfold globB at h
  simp only [Bool.and_eq_true, Bool.not_eq_true'] at h
  refine ⟨?_, h.2⟩
  show X.env.scope.names.lookup x = _
  rw [S.hs]
  have h1 := h.1
  split at h1
  · assumption
  · cases h1
theorem StX.vis (S : StX P hi Γ k N sc st X B μ0 R0 H0) {x : Str} (h : visB sc x = true) : Vis X.env.scope x := by
  rw [S.hs]
  unfold visB at h
  split at h
  · exact .inl (by assumption)
  · exact .inr (.inl (by assumption))
  · exact .inr (.inr (by assumption))
  · cases h
theorem StX.loc (S : StX P hi Γ k N sc st X B μ0 R0 H0) {x : Str} (h : locB st x = true) : Loc X.env.scope x ∧ (X.fn x = true ∨ X.env.scope.names.lookup x = some .local) := by
  rw [S.hs]
  exact S.fn x (loc_of h)
theorem sg_noex (h : SgOk P hi Γ k X.prog X.w X.K X.mg X.base) : SgOk P hi Γ.noex k X.prog X.w X.K X.mg X.base := ⟨h.fn, h.fa, h.nc⟩
theorem StX.blk (S : StX P hi Γ k N sc st X B μ0 R0 H0) {scope : Scope} (hk : scope.kind = .function) (s : Shared) (H : Hp) (C : Addr) (cl : List (Str × Addr)) (fp : List Addr) :
    StX P hi Γ.noex k N (relS scope sc) scope (X.blk s H scope (compEnvC scope cl C X.env) fp) B μ0 R0 H0 := by
  refine ⟨S.hN, ?_, hk, S.nd, S.calm, S.room, fun x l => ?_, sg_noex S.sg, ⟨fun _ _ _ _ => False, takes0, fun _ c fs _ _ _ _ _ _ _ _ z => z.elim⟩⟩
  · show relabel scope X.env = _
    rw [relS_eq, S.hs]
  · rcases l with l | l
    · exact ⟨.inl (relS_local l), .inr (relS_local l)⟩
    · refine ⟨.inr (relS_cell l), .inl ?_⟩
      show (scope.names.lookup x == some .cell) = true
      rw [l]; rfl
end
/-! ### argument lists -/
theorem star_cons {e : Expr} (h : isStar e = false) (es : List Expr) (env : Env) : starEach (e :: es) env = (false, eval e env) :: starEach es env := by
  cases e <;> first | rfl | (simp [isStar] at h)
def noStar (es : List Expr) : Bool := es.all fun e => !isStar e
theorem noStar_cons {e : Expr} {es : List Expr} (h : noStar (e :: es) = true) : isStar e = false ∧ noStar es = true := by
  simpa [noStar] using h
theorem back_star {pos : Pos} {env : Env} : ∀ {es : List Expr}, noStar es = true → (backTo pos (starEach es env)).any (·.1) = false
  | [], _ => rfl
  | e :: es, h => by
    obtain ⟨h1, h2⟩ := noStar_cons h
    rw [star_cons h1]
    show (false || (backTo pos (starEach es env)).any (·.1)) = false
    rw [back_star h2]; rfl
theorem chk_star {P : Prog} {N : List Str} {sc : Scope} : ∀ {as : CEs} {es : List Expr}, chkEs P N sc as es = true → as.plain = true → noStar es = true ∧ as.len = es.length
  | .nil, [], _, _ => ⟨rfl, rfl⟩
  | .nil, _ :: _, h, _ => by simp [chkEs] at h
  | .cons _ _, [], h, _ => by simp [chkEs] at h
  | .star _ _, _, _, h => by simp [CEs.plain] at h
  | .cons a as, e :: es, h, hp => by
    simp only [chkEs, Bool.and_eq_true, Bool.not_eq_true'] at h
    obtain ⟨h1, h2⟩ := chk_star h.2 hp
    exact ⟨by simp only [noStar, List.all_cons, h.1.1, Bool.not_false, Bool.true_and]; exact h1, by simp [CEs.len, h2]⟩
theorem star1 {e : Expr} (h : isStar e = false) (env : Env) : starEach [e] env = [(false, eval e env)] := star_cons h [] env
/-! ### what is walked -/
structure ItOk (T : Tb) (R : Hp) (J : It) (xs : List D) : Prop where
  ex : ∃ (G : Hp → Prop) (Y : Nat → Hp → V → Hp → Prop), Walk J xs.length G Y ∧ (∀ Rc Hc, Same R Rc → Same Rc Hc → G Hc) ∧
    ∀ i μc Rc Hc x Hc', Same R Rc → Same Rc Hc → BagOk T.B Rc Hc → StoOk T Rc Hc μc → Y i Hc x Hc' → ∃ d Rc', xs[i]? = some d ∧ Nx T μc Rc Hc μc Rc' Hc' ∧ Rd T Rc' x d
section
variable {T : Tb} {R : Hp}
theorem it_list {a : Addr} {xs : List V} {ds : List D} (q : R a = some (.lst xs)) (r : RdAll T R xs ds) : ItOk T R (Itl T.K a) ds := by
  refine ⟨fun H => SqL T.K H a xs, YAt xs, ?_, fun Rc Hc s1 s2 => SqL.of (s2 _ _ (s1 _ _ q)), fun i μc Rc Hc x Hc' s1 s2 b o y => ?_⟩
  · rw [← r.length]; exact walk_list (xs := xs)
  · obtain ⟨rfl, y⟩ := y
    obtain ⟨d, hd, rd⟩ := r.get y
    exact ⟨d, Rc, hd, Nx.refl s2 b o, rd.mono s1⟩
theorem it_tup {a : Addr} {xs : List V} {ds : List D} (q : SqT T.K R a xs) (r : RdAll T R xs ds) : ItOk T R (Itt T.K a) ds := by
  refine ⟨fun H => SqT T.K H a xs, YAt xs, ?_, fun Rc Hc s1 s2 => sqT_mono s2 (sqT_mono s1 q), fun i μc Rc Hc x Hc' s1 s2 b o y => ?_⟩
  · rw [← r.length]; exact walk_tup (xs := xs)
  · obtain ⟨rfl, y⟩ := y
    obtain ⟨d, hd, rd⟩ := r.get y
    exact ⟨d, Rc, hd, Nx.refl s2 b o, rd.mono s1⟩
theorem rng_len (lo : Int) (n : Nat) : (rngD lo n).length = n := by simp [rngD]
theorem it_rng {lo : Int} {n : Nat} : ItOk T R (Itr lo n) (rngD lo n) := by
  refine ⟨(fun _ => True), (fun i H x H' => i < n ∧ H' = H ∧ x = .int (lo + i)), ⟨fun i H hi _ => by rw [rng_len] at hi; exact hi, fun H _ => by show n ≤ _; rw [rng_len]; exact Nat.le_refl _, fun i H x H' hi _ y => ⟨by rw [rng_len] at hi; exact hi, y⟩⟩, fun _ _ _ _ => trivial, fun i μc Rc Hc x Hc' s1 s2 b o y => ?_⟩
  obtain ⟨hi, rfl, rfl⟩ := y
  refine ⟨.int (lo + i), Rc, ?_, Nx.refl s2 b o, .int _⟩
  simp [rngD, hi]
theorem pair_yield {μc : Mu} {Rc Hc Hc' : Hp} {x : V} {u v : V} {d e : D} {TT : Addr} (s : Same Rc Hc) (b : BagOk T.B Rc Hc) (o : StoOk T Rc Hc μc) (hT : Hc TT = none) (hx : x = .ref TT) (hH : Hc' = upd Hc TT (.tup [u, v])) (h1 : Rd T Rc u d) (h2 : Rd T Rc v e) :
    ∃ Rc', Nx T μc Rc Hc μc Rc' Hc' ∧ Rd T Rc' x (.tup [d, e]) := by
  subst hx hH
  have n := Nx.new s b o hT (.tup [u, v])
  exact ⟨_, n, .tup (SqT.of upd_same) (.cons (h1.mono n.r) (.cons (h2.mono n.r) .nil))⟩
theorem zip_len (xs ys : List D) : (zipD xs ys).length = min xs.length ys.length := by simp [zipD]
theorem zip_get {xs ys : List D} {i : Nat} {d e : D} (h1 : xs[i]? = some d) (h2 : ys[i]? = some e) : (zipD xs ys)[i]? = some (.tup [d, e]) := by
  unfold zipD
  rw [List.getElem?_zipWith, h1, h2]
theorem it_zip {a c : Addr} {xs ys : List V} {ds es : List D} (q1 : R a = some (.lst xs)) (r1 : RdAll T R xs ds) (q2 : R c = some (.lst ys)) (r2 : RdAll T R ys es) : ItOk T R (Itz T.K a c) (zipD ds es) := by
  refine ⟨_, _, walk_zip (xs := xs) (ys := ys) (by rw [zip_len, r1.length, r2.length]), fun Rc Hc s1 s2 => ⟨SqL.of (s2 _ _ (s1 _ _ q1)), SqL.of (s2 _ _ (s1 _ _ q2))⟩, fun i μc Rc Hc x Hc' s1 s2 b o y => ?_⟩
  obtain ⟨TT, u, v, e1, e2, e3, e4, e5⟩ := y
  obtain ⟨d, hd, rd⟩ := r1.get e4
  obtain ⟨e, he, re⟩ := r2.get e5
  obtain ⟨Rc', n, r⟩ := pair_yield s2 b o e2 e1 e3 (rd.mono s1) (re.mono s1)
  exact ⟨_, Rc', zip_get hd he, n, r⟩
theorem walk_zipT {K : PySem.W.Frag} {a b : Addr} {xs ys : List V} {n : Nat} (hn : n = min xs.length ys.length) : Walk (RZ.ItzT K a b) n (fun H => SqT K H a xs ∧ SqT K H b ys) (YPair (fun i => xs[i]?) (fun i => ys[i]?)) := by
  subst hn
  refine ⟨fun i _ hi q => ?_, fun _ q => ⟨xs, ys, q.1, q.2, by omega⟩, fun i H v H' _ q y => ?_⟩
  · have h1 : i < xs.length := by omega
    have h2 : i < ys.length := by omega
    exact ⟨xs, ys, xs[i], ys[i], q.1, q.2, by simp [h1], by simp [h2]⟩
  · obtain ⟨TT, x, z, h1, h2, h3, h4, h5⟩ := y
    exact ⟨TT, x, z, h1, h2, h3, h4 xs q.1, h5 ys q.2⟩
theorem it_zipT {a c : Addr} {xs ys : List V} {ds es : List D} (q1 : SqT T.K R a xs) (r1 : RdAll T R xs ds) (q2 : SqT T.K R c ys) (r2 : RdAll T R ys es) : ItOk T R (RZ.ItzT T.K a c) (zipD ds es) := by
  refine ⟨_, _, walk_zipT (xs := xs) (ys := ys) (by rw [zip_len, r1.length, r2.length]), fun Rc Hc s1 s2 => ⟨sqT_mono s2 (sqT_mono s1 q1), sqT_mono s2 (sqT_mono s1 q2)⟩, fun i μc Rc Hc x Hc' s1 s2 b o y => ?_⟩
  obtain ⟨TT, u, v, e1, e2, e3, e4, e5⟩ := y
  obtain ⟨d, hd, rd⟩ := r1.get e4
  obtain ⟨e, he, re⟩ := r2.get e5
  obtain ⟨Rc', n, r⟩ := pair_yield s2 b o e2 e1 e3 (rd.mono s1) (re.mono s1)
  exact ⟨_, Rc', zip_get hd he, n, r⟩
theorem enum_get {xs : List D} {i : Nat} {d : D} (h : xs[i]? = some d) : (enumD xs)[i]? = some (.tup [.int (i : Nat), d]) := by
  have hi := (List.getElem?_eq_some_iff.mp h).1
  unfold enumD
  rw [List.getElem?_zipWith, h, List.getElem?_range hi]
theorem it_enum {a : Addr} {xs : List V} {ds : List D} (q : R a = some (.lst xs)) (r : RdAll T R xs ds) : ItOk T R (Ite T.K a) (enumD ds) := by
  have hl : (enumD ds).length = xs.length := by simp [enumD, r.length]
  refine ⟨_, _, by rw [hl]; exact walk_enum (xs := xs), fun Rc Hc s1 s2 => SqL.of (s2 _ _ (s1 _ _ q)), fun i μc Rc Hc x Hc' s1 s2 b o y => ?_⟩
  obtain ⟨TT, u, v, e1, e2, e3, e4, e5⟩ := y
  obtain ⟨d, hd, rd⟩ := r.get e5
  cases e4
  obtain ⟨Rc', n, r'⟩ := pair_yield s2 b o e2 e1 e3 (.int (i : Nat)) (rd.mono s1)
  exact ⟨_, Rc', enum_get hd, n, r'⟩
end
/-! ### targets -/
section
variable {P : Prog} {hi : PInj P} {Γ : Sg} {k : Nat} {N : List Str} {sc st : Scope} {X : Cx} {B : Addr} {μ0 μ : Mu} {R0 H0 R H : Hp} {σ : L2.St} {ρ : List Sl}
theorem name_ok (S : StX P hi Γ k N sc st X B μ0 R0 H0) {i : Nat} {e : Expr} (h : chkName N st i e = true) : PG X e (gName i) := by
  cases e <;> first | (simp [chkName] at h; done) | skip
  rename_i x pos
  simp only [chkName, Bool.and_eq_true, decide_eq_true_eq] at h
  obtain ⟨l1, l2⟩ := S.loc h.2
  exact pg_name (by rw [S.hN]; exact S.nd) (by rw [S.hN]; exact h.1) l1 l2
def setAllV (σ : L2.St) : List Nat → List V → L2.St
  | i :: is, d :: ds => setAllV (σ.set i (some d)) is ds
  | _, _ => σ
theorem setAll_ok {T : Tb} : ∀ {is : List Nat} {vs : List V} {ds : List D} {σ : L2.St} {ρ : List Sl}, Ok T μ0 R0 H0 μ R H σ ρ → RdAll T R vs ds → Ok T μ0 R0 H0 μ R H (setAllV σ is vs) (setAll ρ is ds)
  | [], _, _, _, _, o, _ => by unfold setAllV setAll; exact o
  | i :: is, _, _, _, _, o, .nil => by simp only [setAllV, setAll]; exact o
  | i :: is, _, _, _, _, o, .cons a r => by simp only [setAllV, setAll]; exact setAll_ok (o.set i a) r
theorem names_ok (S : StX P hi Γ k N sc st X B μ0 R0 H0) : ∀ {is : List Nat} {es : List Expr}, chkNames N st is es = true → PGs X es (fun vs σ H Q => vs.length = is.length ∧ Q (setAllV σ is vs) H) ∧ (assignEach es X.env).length = is.length ∧ (assignEach es X.env).findIdx? (·.1) = none
  | [], [], _ => by
    refine ⟨⟨fun pins s σ H vs us Q I r h => ?_⟩, rfl, rfl⟩
    obtain ⟨hl, h⟩ := h
    have e : vs = [] := List.eq_nil_of_length_eq_zero hl
    subst e
    exact pgs_nil.run pins s σ H [] us Q I r ⟨rfl, h⟩
  | [], _ :: _, h => by simp [chkNames] at h
  | _ :: _, [], h => by simp [chkNames] at h
  | i :: is, e :: es, h => by
    simp only [chkNames, Bool.and_eq_true] at h
    obtain ⟨h2, h3, h4⟩ := names_ok S h.2
    have h1 := name_ok S h.1
    have he : ∃ x pos, e = .Name x pos := by
      cases e <;> first | (simp [chkName] at h; done) | exact ⟨_, _, rfl⟩
    obtain ⟨x, pos, rfl⟩ := he
    refine ⟨⟨fun pins s σ H vs us Q I r hq => ?_⟩, by show (assignEach es X.env).length + 1 = _; rw [h3]; rfl, ?_⟩
    · obtain ⟨hl, hq⟩ := hq
      cases vs with
      | nil => simp at hl
      | cons v vs =>
        exact (pgs_cons h1 h2).run pins s σ H (v :: vs) us Q I r ⟨v, vs, rfl, by simpa using hl, hq⟩
    · show List.findIdx? (·.1) ((false, _) :: assignEach es X.env) = none
      rw [List.findIdx?_cons]
      simp only [Bool.false_eq_true, if_false, h4, Option.map_none]
def tgEff (tg : Tg) (σ : L2.St) (v : V) (σ' : L2.St) : Prop := match tg with
  | .one i => σ' = σ.set i (some v)
  | .tup is => ∃ vs, σ' = setAllV σ is vs
theorem tg_ok (S : StX P hi Γ k N sc st X B μ0 R0 H0) {tg : Tg} {e : Expr} (h : chkTg N st tg e = true) {v : V} {d : D} {W : List Sl → Prop} {Q : L2.St → Hp → Prop} {μe : Mu} {Re He : Hp} (o : Ok (P.tb hi X.K B) μe Re He μ R H σ ρ) (r : Rd (P.tb hi X.K B) R v d) (hb : bindT tg d ρ W)
    (t : ∀ σ' ρ', Ok (P.tb hi X.K B) μe Re He μ R H σ' ρ' → tgEff tg σ v σ' → W ρ' → Q σ' H) : wpg X e v σ H Q := by
  cases tg with
  | one i => exact of_pg (name_ok S h) (t _ _ (o.set i r) rfl hb)
  | tup is =>
    cases e <;> first | (simp [chkTg] at h; done) | skip
    rename_i es kk pos
    obtain ⟨h1, h2, h3⟩ := names_ok S h
    cases d <;> first | exact False.elim hb | skip
    rename_i ds
    obtain ⟨hl, hb⟩ := hb
    cases r with
    | @tup a xs _ q r =>
    exact of_pg (pg_tup S.calm h1 h2 h3) ⟨a, xs, rfl, sqT_mono o.sub q, by rw [r.length, hl], by rw [r.length, hl], t _ _ (setAll_ok o r) ⟨_, rfl⟩ hb⟩
theorem wipe_set {i : Nat} {v : Option V} : ∀ {vs : List Nat} {σ : L2.St}, i ∈ vs → wipe (σ.set i v) vs = wipe σ vs
  | [], _, h => by cases h
  | j :: vs, σ, h => by
    unfold wipe
    by_cases e : i ∈ vs
    · rw [wipe_set e]
    · have e' : i = j := by
        rcases List.mem_cons.mp h with z | z
        · exact z
        · exact absurd z e
      subst e'
      rw [wipe_out_set e]
      exact List.set_set ..
where
  wipe_out_set {i : Nat} {v : Option V} : ∀ {vs : List Nat} {σ : L2.St}, i ∉ vs → wipe (σ.set i v) vs = (wipe σ vs).set i v
    | [], _, _ => rfl
    | j :: vs, σ, h => by
      have h1 : i ≠ j := fun e => h (by rw [e]; exact List.mem_cons_self)
      have h2 : i ∉ vs := fun m => h (List.mem_cons_of_mem _ m)
      unfold wipe
      rw [wipe_out_set h2, List.set_comm _ _ h1]
theorem wipe_idem : ∀ {vs ws : List Nat} {σ : L2.St}, (∀ i, i ∈ ws → i ∈ vs) → wipe (wipe σ ws) vs = wipe σ vs
  | vs, [], _, _ => rfl
  | vs, j :: ws, σ, h => by
    show wipe ((wipe σ ws).set j none) vs = _
    rw [wipe_set (h j List.mem_cons_self)]
    exact wipe_idem fun i hi => h i (List.mem_cons_of_mem _ hi)
theorem wipe_setAll {vs : List Nat} : ∀ {is : List Nat} {xs : List V} {σ : L2.St}, (∀ i, i ∈ is → i ∈ vs) → wipe (setAllV σ is xs) vs = wipe σ vs
  | [], _, _, _ => by unfold setAllV; rfl
  | i :: is, [], _, _ => rfl
  | i :: is, x :: xs, σ, h => by
    show wipe (setAllV (σ.set i (some x)) is xs) vs = _
    rw [wipe_setAll fun j hj => h j (List.mem_cons_of_mem _ hj), wipe_set (h i List.mem_cons_self)]
theorem tg_wipe {tg : Tg} {vs : List Nat} (h : tgIn tg vs = true) {σ : L2.St} {v : V} {σ' : L2.St} (e : tgEff tg (wipe σ vs) v σ') : wipe σ' vs = wipe σ vs := by
  cases tg with
  | one i =>
    have hi : i ∈ vs := by simpa [tgIn] using h
    have e' : σ' = (wipe σ vs).set i (some v) := e
    rw [e', wipe_set hi, wipe_idem fun i h => h]
  | tup is =>
    obtain ⟨xs, e'⟩ := e
    have hi : ∀ i, i ∈ is → i ∈ vs := by simpa [tgIn] using h
    rw [e', wipe_setAll hi, wipe_idem fun i h => h]
end
end MP
set_option maxHeartbeats 4000000
/-! MP: the terms mean what the text does: expressions. -/
namespace MP
open PySem PySem.Spec PyProof.Rows L2
section
variable (P : Prog) (hi : PInj P) (Γ : Sg) (k : Nat) (N : List Str)
abbrev SE (ce : CE) : Prop := ∀ (sc st : Scope) (e : Expr), chkE P N sc ce e = true → ∀ (X : Cx) (B : Addr) (μ0 : Mu) (R0 H0 : Hp), StX P hi Γ k N sc st X B μ0 R0 H0 → ∀ (μ : Mu) (R H : Hp) (σ : L2.St) (ρ : List Sl) (W : Po) (Q : VK),
  Ok (P.tb hi X.K B) μ0 R0 H0 μ R H σ ρ → wE Γ ce ρ μ W → To (P.tb hi X.K B) μ R H W Q → wpt X e σ H Q
abbrev ST (ce : CE) : Prop := ∀ (sc st : Scope) (e : Expr), chkE P N sc ce e = true → ∀ (X : Cx) (B : Addr) (μ0 : Mu) (R0 H0 : Hp), StX P hi Γ k N sc st X B μ0 R0 H0 → ∀ (μ : Mu) (R H : Hp) (σ : L2.St) (ρ : List Sl) (W : Po) (Q : Bool → Hp → Prop),
  Ok (P.tb hi X.K B) μ0 R0 H0 μ R H σ ρ → wE Γ ce ρ μ W → (∀ d μ' R' H', Nx (P.tb hi X.K B) μ R H μ' R' H' → W d μ' → truD (vw μ' d) fun b => Q b H') → wptt X e σ H Q
abbrev SEs (as : CEs) : Prop := ∀ (sc st : Scope) (es : List Expr), chkEs P N sc as es = true → ∀ (X : Cx) (B : Addr) (μ0 : Mu) (R0 H0 : Hp), StX P hi Γ k N sc st X B μ0 R0 H0 → ∀ (μ : Mu) (R H : Hp) (σ : L2.St) (ρ : List Sl) (W : List D → Mu → Prop) (Q : List V → Hp → Prop),
  Ok (P.tb hi X.K B) μ0 R0 H0 μ R H σ ρ → wEs Γ as ρ μ W → (∀ vs ds μ' R' H', Nx (P.tb hi X.K B) μ R H μ' R' H' → RdAll (P.tb hi X.K B) R' vs ds → as.npl ≤ ds.length → (as.plain = true → ds.length = as.len) → W ds μ' → Q vs H') → wpa X es σ H Q
abbrev SKs (as : CEs) : Prop := ∀ (sc st : Scope) (ks : List Str) (es : List Keyword), kwNames ks es = true → as.plain = true → chkEs P N sc as (kwVals es) = true → ∀ (X : Cx) (B : Addr) (μ0 : Mu) (R0 H0 : Hp), StX P hi Γ k N sc st X B μ0 R0 H0 → ∀ (μ : Mu) (R H : Hp) (σ : L2.St) (ρ : List Sl) (W : List D → Mu → Prop) (Q : List V → Hp → Prop),
  Ok (P.tb hi X.K B) μ0 R0 H0 μ R H σ ρ → wEs Γ as ρ μ W → (∀ vs ds μ' R' H', Nx (P.tb hi X.K B) μ R H μ' R' H' → RdAll (P.tb hi X.K B) R' vs ds → ds.length = as.len → W ds μ' → Q vs H') → wpk X es σ H Q
abbrev SI (ci : CI) : Prop := ∀ (sc st : Scope) (e tg : Expr), chkI P N sc ci e (isTup tg) = true → ∀ (X : Cx) (B : Addr) (μ0 : Mu) (R0 H0 : Hp), StX P hi Γ k N sc st X B μ0 R0 H0 → ∀ (μ : Mu) (R H : Hp) (σ : L2.St) (ρ : List Sl) (W : List D → Mu → Prop) (Q : It → Hp → Prop),
  Ok (P.tb hi X.K B) μ0 R0 H0 μ R H σ ρ → wI Γ ci ρ μ W → (∀ J xs μ' R' H', Nx (P.tb hi X.K B) μ R H μ' R' H' → ItOk (P.tb hi X.K B) R' J xs → (lenOb ci xs → xs.length ≤ sizeLine) → W xs μ' → Q J H') → wpi X tg e σ H Q
end
section
variable {P : Prog} {hi : PInj P} {Γ : Sg} {k : Nat} {N : List Str}
theorem st_gen {ce : CE} (h : SE P hi Γ k N ce) (g : ∀ (sc : Scope) (e : Expr), chkE P N sc ce e = true → ∀ (env : Env) (whole : Sem Value), isTrue e env whole = (do let v ← whole; standAt e.pos; holding [v] (truthy v))) : ST P hi Γ k N ce := by
  intro sc st e hc X B μ0 R0 H0 S μ R H σ ρ W Q o w t
  refine of_pt (pt_truth (pe_wpt e) (g sc e hc X.env)) ?_
  refine h sc st e hc X B μ0 R0 H0 S μ R H σ ρ W _ o w fun v d μ' R' H' n r hw => ?_
  exact tru_rd (r.rw n.s n.o) (t d μ' R' H' n hw)
/-! ### atoms -/
theorem se_var (i : Nat) : SE P hi Γ k N (.var i) := by
  intro sc st e hc X B μ0 R0 H0 S μ R H σ ρ W Q o w t
  cases e <;> first | exact absurd hc Bool.false_ne_true | skip
  rename_i x pos
  simp only [chkE, Bool.and_eq_true, decide_eq_true_eq, Bool.not_eq_true'] at hc
  obtain ⟨⟨⟨h1, h2⟩, h3⟩, h4⟩ := hc
  refine of_pe (pe_var (by rw [S.hN]; exact h1) (S.vis h2) h3 h4) ?_
  simp only [wE] at w
  split at w
  · rename_i d hd
    obtain ⟨v, hv, r⟩ := o.sl i _ hd
    exact ⟨v, hv, t.here o.sub o.bag o.sto r w⟩
  · exact w.elim
theorem se_int (n : Int) : SE P hi Γ k N (.int n) := by
  intro sc st e hc X B μ0 R0 H0 S μ R H σ ρ W Q o w t
  cases e <;> first | exact absurd hc Bool.false_ne_true | skip
  rename_i c kk pos
  cases c <;> first | exact absurd hc Bool.false_ne_true | skip
  simp only [chkE, decide_eq_true_eq] at hc
  subst hc
  exact of_pe pe_int (t.here o.sub o.bag o.sto (.int _) w)
theorem se_str (x : Str) : SE P hi Γ k N (.str x) := by
  intro sc st e hc X B μ0 R0 H0 S μ R H σ ρ W Q o w t
  cases e <;> first | exact absurd hc Bool.false_ne_true | skip
  rename_i c kk pos
  cases c <;> first | exact absurd hc Bool.false_ne_true | skip
  simp only [chkE, decide_eq_true_eq] at hc
  subst hc
  exact of_pe pe_str (t.here o.sub o.bag o.sto (.str _) w)
theorem se_bl (x : Bool) : SE P hi Γ k N (.bl x) := by
  intro sc st e hc X B μ0 R0 H0 S μ R H σ ρ W Q o w t
  cases e <;> first | exact absurd hc Bool.false_ne_true | skip
  rename_i c kk pos
  cases c <;> first | exact absurd hc Bool.false_ne_true | skip
  simp only [chkE, decide_eq_true_eq] at hc
  subst hc
  exact of_pe pe_bl (t.here o.sub o.bag o.sto (.bl _) w)
theorem se_non : SE P hi Γ k N .non := by
  intro sc st e hc X B μ0 R0 H0 S μ R H σ ρ W Q o w t
  cases e <;> first | exact absurd hc Bool.false_ne_true | skip
  rename_i c kk pos
  cases c <;> first | exact absurd hc Bool.false_ne_true | skip
  exact of_pe pe_non (t.here o.sub o.bag o.sto .non w)
theorem se_gc (x : Str) (d : Dc) : SE P hi Γ k N (.gc x d) := by
  intro sc st e hc X B μ0 R0 H0 S μ R H σ ρ W Q o w t
  cases e <;> first | exact absurd hc Bool.false_ne_true | skip
  rename_i y pos
  simp only [chkE, Bool.and_eq_true, decide_eq_true_eq] at hc
  obtain ⟨⟨rfl, hg⟩, hm⟩ := hc
  obtain ⟨g1, g2⟩ := S.glob hg
  obtain ⟨v, u, e1, e2, e3⟩ := S.sg.fa.gc _ _ hm
  exact of_pe (pe_glob g1 e1 e2 g2) (t.here o.sub o.bag o.sto (e3 _ _ rfl) w)
/-! ### operators -/
theorem se_bin {op : Bop} {a b : CE} (ha : SE P hi Γ k N a) (hb : SE P hi Γ k N b) : SE P hi Γ k N (.bin op a b) := by
  intro sc st e hc X B μ0 R0 H0 S μ R H σ ρ W Q o w t
  cases e <;> first | exact absurd hc Bool.false_ne_true | skip
  rename_i l op' r pos
  simp only [chkE, Bool.and_eq_true, decide_eq_true_eq] at hc
  obtain ⟨⟨rfl, h1⟩, h2⟩ := hc
  refine of_pe (pe_op (or_wpt _) (pe_wpt l) (pe_wpt r)) ?_
  refine ha sc st l h1 X B μ0 R0 H0 S μ R H σ ρ _ _ o w fun x d μ1 R1 H1 n1 rx w1 => ?_
  refine hb sc st r h2 X B μ0 R0 H0 S μ1 R1 H1 σ ρ _ _ (o.nx n1) w1 fun y e μ2 R2 H2 n2 ry w2 => ?_
  exact bin_ok op rfl n2.s n2.b n2.o (rx.mono n2.r) ry w2 fun v d μ' R' H' n r' hw => t v d μ' R' H' (n1.trans (n2.trans n)) r' hw
theorem se_neg {a : CE} (ha : SE P hi Γ k N a) : SE P hi Γ k N (.neg a) := by
  intro sc st e hc X B μ0 R0 H0 S μ R H σ ρ W Q o w t
  cases e <;> first | exact absurd hc Bool.false_ne_true | skip
  rename_i op l pos
  cases op <;> first | exact absurd hc Bool.false_ne_true | skip
  refine of_pe (pe_un un_neg (pe_wpt l)) ?_
  refine ha sc st l hc X B μ0 R0 H0 S μ R H σ ρ _ _ o w fun x d μ1 R1 H1 n1 rx w1 => ?_
  cases d <;> first | exact w1.elim | skip
  cases rx
  exact ⟨_, rfl, t _ _ _ _ _ n1 (.int _) w1⟩
theorem set_mark {r : Expr} (h : isSet r = false) (op : CmpOp) : behindInMarks op r = false := by
  cases r <;> first | rfl | (simp [isSet] at h)
theorem se_cmp {op : Cop} {a b : CE} (ha : SE P hi Γ k N a) (hb : SE P hi Γ k N b) : SE P hi Γ k N (.cmp op a b) := by
  intro sc st e hc X B μ0 R0 H0 S μ R H σ ρ W Q o w t
  cases e <;> first | exact absurd hc Bool.false_ne_true | skip
  rename_i l ops rs pos
  rcases ops with _ | ⟨op', _ | ⟨_, _⟩⟩ <;> first | exact absurd hc Bool.false_ne_true | skip
  rcases rs with _ | ⟨r, _ | ⟨_, _⟩⟩ <;> first | exact absurd hc Bool.false_ne_true | skip
  simp only [chkE, Bool.and_eq_true, decide_eq_true_eq, Bool.not_eq_true'] at hc
  obtain ⟨⟨⟨rfl, hs⟩, h1⟩, h2⟩ := hc
  refine of_pe (pe_cmpR (or_wpt _) (pe_wpt l) (pe_wpt r) (set_mark hs _)) ?_
  refine ha sc st l h1 X B μ0 R0 H0 S μ R H σ ρ _ _ o w fun x d μ1 R1 H1 n1 rx w1 => ?_
  refine hb sc st r h2 X B μ0 R0 H0 S μ1 R1 H1 σ ρ _ _ (o.nx n1) w1 fun y e μ2 R2 H2 n2 ry w2 => ?_
  exact cmp_ok op rfl S.hu n2.s n2.o (rx.mono n2.r) ry w2 fun kk hk => t _ _ _ _ _ (n1.trans n2) (.bl kk) hk
theorem st_cmp {op : Cop} {a b : CE} (ha : SE P hi Γ k N a) (hb : SE P hi Γ k N b) : ST P hi Γ k N (.cmp op a b) := by
  intro sc st e hc X B μ0 R0 H0 S μ R H σ ρ W Q o w t
  cases e <;> first | exact absurd hc Bool.false_ne_true | skip
  rename_i l ops rs pos
  rcases ops with _ | ⟨op', _ | ⟨_, _⟩⟩ <;> first | exact absurd hc Bool.false_ne_true | skip
  rcases rs with _ | ⟨r, _ | ⟨_, _⟩⟩ <;> first | exact absurd hc Bool.false_ne_true | skip
  simp only [chkE, Bool.and_eq_true, decide_eq_true_eq, Bool.not_eq_true'] at hc
  obtain ⟨⟨⟨rfl, hs⟩, h1⟩, h2⟩ := hc
  refine of_pt (pt_cmpR (or_wpt _) (pe_wpt l) (pe_wpt r) (set_mark hs _)) ?_
  refine ha sc st l h1 X B μ0 R0 H0 S μ R H σ ρ _ _ o w fun x d μ1 R1 H1 n1 rx w1 => ?_
  refine hb sc st r h2 X B μ0 R0 H0 S μ1 R1 H1 σ ρ _ _ (o.nx n1) w1 fun y e μ2 R2 H2 n2 ry w2 => ?_
  exact cmp_ok op rfl S.hu n2.s n2.o (rx.mono n2.r) ry w2 fun kk hk => ⟨kk, rfl, t _ _ _ _ (n1.trans n2) hk⟩
theorem chain_r {p q : Cop} {a b c : CE} (ha : SE P hi Γ k N a) (hb : SE P hi Γ k N b) (hcc : SE P hi Γ k N c) {sc st : Scope} {l r r' : Expr} (h1 : chkE P N sc a l = true) (h2 : chkE P N sc b r = true) (h3 : chkE P N sc c r' = true)
    {X : Cx} {B : Addr} {μ0 : Mu} {R0 H0 : Hp} (S : StX P hi Γ k N sc st X B μ0 R0 H0) {μ : Mu} {R H : Hp} {σ : L2.St} {ρ : List Sl} {W : Po} {Q : VK} (o : Ok (P.tb hi X.K B) μ0 R0 H0 μ R H σ ρ) (w : wE Γ (.chain p q a b c) ρ μ W) (t : ∀ kk μ' R' H', Nx (P.tb hi X.K B) μ R H μ' R' H' → W (.bl kk) μ' → Q (.bl kk) H') :
    tChain (wpr X (compareOp p.op)) (wpr X (compareOp q.op)) (wpt X l) (wpt X r) (wpt X r') σ H Q := by
  refine ha sc st l h1 X B μ0 R0 H0 S μ R H σ ρ _ _ o w fun x d μ1 R1 H1 n1 rx w1 => ?_
  refine hb sc st r h2 X B μ0 R0 H0 S μ1 R1 H1 σ ρ _ _ (o.nx n1) w1 fun y e μ2 R2 H2 n2 ry w2 => ?_
  refine cmp_ok p rfl S.hu n2.s n2.o (rx.mono n2.r) ry w2 fun kk hk => ⟨kk, rfl, ?_⟩
  cases kk with
  | false => exact iteF (t _ _ _ _ (n1.trans n2) hk)
  | true =>
    refine iteT ?_
    refine hcc sc st r' h3 X B μ0 R0 H0 S μ2 R2 H2 σ ρ _ _ ((o.nx n1).nx n2) hk fun z f μ3 R3 H3 n3 rz w3 => ?_
    exact cmp_ok q rfl S.hu n3.s n3.o (ry.mono n3.r) rz w3 fun kk hk => t _ _ _ _ (n1.trans (n2.trans n3)) hk
theorem se_chain {p q : Cop} {a b c : CE} (ha : SE P hi Γ k N a) (hb : SE P hi Γ k N b) (hcc : SE P hi Γ k N c) : SE P hi Γ k N (.chain p q a b c) := by
  intro sc st e hc X B μ0 R0 H0 S μ R H σ ρ W Q o w t
  cases e <;> first | exact absurd hc Bool.false_ne_true | skip
  rename_i l ops rs pos
  rcases ops with _ | ⟨op, _ | ⟨op', _ | ⟨_, _⟩⟩⟩ <;> first | exact absurd hc Bool.false_ne_true | skip
  rcases rs with _ | ⟨r, _ | ⟨r', _ | ⟨_, _⟩⟩⟩ <;> first | exact absurd hc Bool.false_ne_true | skip
  simp only [chkE, Bool.and_eq_true, decide_eq_true_eq, Bool.not_eq_true'] at hc
  obtain ⟨⟨⟨⟨⟨rfl, rfl⟩, hs⟩, h1⟩, h2⟩, h3⟩ := hc
  exact of_pe (pe_chain (or_wpt _) (or_wpt _) (pe_wpt l) (pe_wpt r) (pe_wpt r') (set_mark hs _)) (chain_r ha hb hcc h1 h2 h3 S o w fun kk μ' R' H' n hw => t _ _ _ _ _ n (.bl kk) hw)
theorem st_chain {p q : Cop} {a b c : CE} (ha : SE P hi Γ k N a) (hb : SE P hi Γ k N b) (hcc : SE P hi Γ k N c) : ST P hi Γ k N (.chain p q a b c) := by
  intro sc st e hc X B μ0 R0 H0 S μ R H σ ρ W Q o w t
  cases e <;> first | exact absurd hc Bool.false_ne_true | skip
  rename_i l ops rs pos
  rcases ops with _ | ⟨op, _ | ⟨op', _ | ⟨_, _⟩⟩⟩ <;> first | exact absurd hc Bool.false_ne_true | skip
  rcases rs with _ | ⟨r, _ | ⟨r', _ | ⟨_, _⟩⟩⟩ <;> first | exact absurd hc Bool.false_ne_true | skip
  simp only [chkE, Bool.and_eq_true, decide_eq_true_eq, Bool.not_eq_true'] at hc
  obtain ⟨⟨⟨⟨⟨rfl, rfl⟩, hs⟩, h1⟩, h2⟩, h3⟩ := hc
  exact of_pt (pt_chain (or_wpt _) (or_wpt _) (pe_wpt l) (pe_wpt r) (pe_wpt r') (set_mark hs _)) (chain_r ha hb hcc h1 h2 h3 S o w fun kk μ' R' H' n hw => ⟨kk, rfl, t _ _ _ _ n hw⟩)

/-! ### not, and, or, if -/
theorem pe_notW {X : Cx} {e : Expr} {pos : Pos} {σ : L2.St} {H : Hp} {Q : VK} (h : wpt X e σ H fun x H1 => ∃ c, TruV X.K x H1 c ∧ Q (.bl (!c)) H1) : wpt X (.UnaryOp .Not e pos) σ H Q := fun pins s I => by
  refine UnaryOp_ (thn (h pins s I) fun v s1 ⟨x, H1, I1, r1, q1⟩ => ?_)
  exact not_of (tru_ok pins s1 σ H1 x v (fun c H' => Q (.bl (!c)) H') I1 r1 q1 |> fun z => thn z fun c s2 ⟨H2, I2, q2⟩ => ⟨.bl (!c), H2, I2, rfl, q2⟩)
theorem se_not {a : CE} (ha : SE P hi Γ k N a) : SE P hi Γ k N (.not a) := by
  intro sc st e hc X B μ0 R0 H0 S μ R H σ ρ W Q o w t
  cases e <;> first | exact absurd hc Bool.false_ne_true | skip
  rename_i op l pos
  cases op <;> first | exact absurd hc Bool.false_ne_true | skip
  refine pe_notW ?_
  refine ha sc st l hc X B μ0 R0 H0 S μ R H σ ρ _ _ o w fun x d μ1 R1 H1 n1 rx w1 => ?_
  exact tru_rd (T := P.tb hi X.K B) (rx.rw n1.s n1.o) (truD_imp w1 fun c hw => t _ _ _ _ _ n1 (.bl _) hw)
theorem st_not {a : CE} (ha : ST P hi Γ k N a) : ST P hi Γ k N (.not a) := by
  intro sc st e hc X B μ0 R0 H0 S μ R H σ ρ W Q o w t
  cases e <;> first | exact absurd hc Bool.false_ne_true | skip
  rename_i op l pos
  cases op <;> first | exact absurd hc Bool.false_ne_true | skip
  refine of_pt (pt_not (pt_wpt l)) ?_
  refine ha sc st l hc X B μ0 R0 H0 S μ R H σ ρ _ _ o w fun d μ1 R1 H1 n1 w1 => ?_
  exact truD_imp w1 fun c hw => t _ _ _ _ n1 hw
theorem bop_2 {N : List Str} {sc : Scope} {kd : Bool} {a b : CE} {e : Expr} (hc : chkE P N sc (.bop kd a b) e = true) :
    ∃ (op : BoolOp) (x y : Expr) (r : List Expr) (p : Pos), e = .BoolOp op (x :: y :: r) p ∧ op = (if kd then BoolOp.And else BoolOp.Or) ∧ chkE P N sc a x = true ∧ ((r = [] ∧ chkE P N sc b y = true) ∨ (r ≠ [] ∧ chkE P N sc b (.BoolOp op (y :: r) p) = true)) := by
  cases e <;> first | exact absurd hc Bool.false_ne_true | skip
  rename_i op es p
  rcases es with _ | ⟨x, _ | ⟨y, _ | ⟨z, r⟩⟩⟩ <;> first | exact absurd hc Bool.false_ne_true | skip
  · simp only [chkE, Bool.and_eq_true, decide_eq_true_eq] at hc
    exact ⟨op, x, y, [], p, rfl, hc.1.1, hc.1.2, .inl ⟨rfl, hc.2⟩⟩
  · simp only [chkE, Bool.and_eq_true, decide_eq_true_eq] at hc
    exact ⟨op, x, y, z :: r, p, rfl, hc.1.1, hc.1.2, .inr ⟨by simp, hc.2⟩⟩
theorem bop_b {b : CE} (hb : SE P hi Γ k N b) {sc st : Scope} {op : BoolOp} {y : Expr} {r : List Expr} {p : Pos} (h : (r = [] ∧ chkE P N sc b y = true) ∨ (r ≠ [] ∧ chkE P N sc b (.BoolOp op (y :: r) p) = true))
    {X : Cx} {B : Addr} {μ0 : Mu} {R0 H0 : Hp} (S : StX P hi Γ k N sc st X B μ0 R0 H0) {μ : Mu} {R H : Hp} {σ : L2.St} {ρ : List Sl} {W : Po} {Q : VK} (o : Ok (P.tb hi X.K B) μ0 R0 H0 μ R H σ ρ) (w : wE Γ b ρ μ W) (t : To (P.tb hi X.K B) μ R H W Q) : wpt X (.BoolOp op (y :: r) p) σ H Q := by
  rcases h with ⟨rfl, h⟩ | ⟨_, h⟩
  · exact of_pe (pe_one (pe_wpt y)) (hb sc st y h X B μ0 R0 H0 S μ R H σ ρ W Q o w t)
  · exact hb sc st _ h X B μ0 R0 H0 S μ R H σ ρ W Q o w t
theorem se_bop {kd : Bool} {a b : CE} (ha : SE P hi Γ k N a) (hb : SE P hi Γ k N b) : SE P hi Γ k N (.bop kd a b) := by
  intro sc st e hc X B μ0 R0 H0 S μ R H σ ρ W Q o w t
  obtain ⟨op, x, y, r, p, rfl, rfl, h1, h2⟩ := bop_2 hc
  intro pins s I
  cases kd with
  | true =>
    refine BoolOp_and (thn ((ha sc st x h1 X B μ0 R0 H0 S μ R H σ ρ _ (fun v H1 => ∃ μ1 R1 d, Nx (P.tb hi X.K B) μ R H μ1 R1 H1 ∧ Rd (P.tb hi X.K B) R1 v d ∧ truD (vw μ1 d) fun c => iteP (c == true) (wE Γ b ρ μ1 W) (W d μ1)) o w fun x d μ1 R1 H1 n1 rx w1 => ⟨μ1, R1, d, n1, rx, w1⟩) pins s I) fun v s1 ⟨z, H1, I1, r1, μ1, R1, d, n1, rx, w1⟩ => ?_)
    refine thn (tru_ok pins s1 σ H1 z v (fun c H' => H' = H1 ∧ iteP (c == true) (wE Γ b ρ μ1 W) (W d μ1)) I1 r1 (tru_rd (T := P.tb hi X.K B) (rx.rw n1.s n1.o) (truD_imp w1 fun c hw => ⟨rfl, hw⟩))) fun c s2 ⟨H2, I2, e2, q2⟩ => ?_
    subst e2
    cases c with
    | true => exact bop_b hb h2 S (o.nx n1) q2 (fun v d μ' R' H' n r' hw => t _ _ _ _ _ (n1.trans n) r' hw) pins s2 I2
    | false => exact ⟨z, H2, I2, r1, t _ _ _ _ _ n1 rx q2⟩
  | false =>
    refine BoolOp_or (thn ((ha sc st x h1 X B μ0 R0 H0 S μ R H σ ρ _ (fun v H1 => ∃ μ1 R1 d, Nx (P.tb hi X.K B) μ R H μ1 R1 H1 ∧ Rd (P.tb hi X.K B) R1 v d ∧ truD (vw μ1 d) fun c => iteP (c == false) (wE Γ b ρ μ1 W) (W d μ1)) o w fun x d μ1 R1 H1 n1 rx w1 => ⟨μ1, R1, d, n1, rx, w1⟩) pins s I) fun v s1 ⟨z, H1, I1, r1, μ1, R1, d, n1, rx, w1⟩ => ?_)
    refine thn (tru_ok pins s1 σ H1 z v (fun c H' => H' = H1 ∧ iteP (c == false) (wE Γ b ρ μ1 W) (W d μ1)) I1 r1 (tru_rd (T := P.tb hi X.K B) (rx.rw n1.s n1.o) (truD_imp w1 fun c hw => ⟨rfl, hw⟩))) fun c s2 ⟨H2, I2, e2, q2⟩ => ?_
    subst e2
    cases c with
    | false => exact bop_b hb h2 S (o.nx n1) q2 (fun v d μ' R' H' n r' hw => t _ _ _ _ _ (n1.trans n) r' hw) pins s2 I2
    | true => exact ⟨z, H2, I2, r1, t _ _ _ _ _ n1 rx q2⟩
abbrev wpw (X : Cx) (e : Expr) : TT := fun σ H Q => ∀ whole pins s, Inv X pins σ H s → wpAny (model X.prog X.w) X.A (isTrue e X.env whole) (TP X pins σ Q) X.xe s
theorem pw_wpt {X : Cx} (e : Expr) : PW X e (wpw X e) := ⟨fun whole pins s σ H Q I h => h whole pins s I⟩
theorem of_pw {X : Cx} {e : Expr} {t : TT} (h : PW X e t) {σ : L2.St} {H : Hp} {Q : Bool → Hp → Prop} (q : t σ H Q) : wpw X e σ H Q := fun whole pins s I => h.run whole pins s σ H Q I q
theorem wpw_bool {X : Cx} {op : BoolOp} {es : List Expr} {p : Pos} {σ : L2.St} {H : Hp} {Q : Bool → Hp → Prop} (h : wptt X (.BoolOp op es p) σ H Q) : wpw X (.BoolOp op es p) σ H Q := fun whole pins s I => h pins s I
theorem bop_bT {b : CE} (hb : ST P hi Γ k N b) {sc st : Scope} {kd : Bool} {y : Expr} {r : List Expr} {p : Pos} (h : (r = [] ∧ chkE P N sc b y = true) ∨ (r ≠ [] ∧ chkE P N sc b (.BoolOp (if kd then .And else .Or) (y :: r) p) = true))
    {X : Cx} {B : Addr} {μ0 : Mu} {R0 H0 : Hp} (S : StX P hi Γ k N sc st X B μ0 R0 H0) {μ : Mu} {R H : Hp} {σ : L2.St} {ρ : List Sl} {W : Po} {Q : Bool → Hp → Prop} (o : Ok (P.tb hi X.K B) μ0 R0 H0 μ R H σ ρ) (w : wE Γ b ρ μ W) (t : ∀ d μ' R' H', Nx (P.tb hi X.K B) μ R H μ' R' H' → W d μ' → truD (vw μ' d) fun b => Q b H') : wpw X (.BoolOp (if kd then .And else .Or) (y :: r) p) σ H Q := by
  rcases h with ⟨rfl, h⟩ | ⟨_, h⟩
  · have q := hb sc st y h X B μ0 R0 H0 S μ R H σ ρ W Q o w t
    cases kd with
    | true => exact of_pw (pw_and1 (pt_wpt y)) q
    | false => exact of_pw (pw_or1 (pt_wpt y)) q
  · exact wpw_bool (hb sc st _ h X B μ0 R0 H0 S μ R H σ ρ W Q o w t)
theorem st_bop {kd : Bool} {a b : CE} (ha : ST P hi Γ k N a) (hb : ST P hi Γ k N b) : ST P hi Γ k N (.bop kd a b) := by
  intro sc st e hc X B μ0 R0 H0 S μ R H σ ρ W Q o w t
  obtain ⟨op, x, y, r, p, rfl, rfl, h1, h2⟩ := bop_2 hc
  have key : wptt X x σ H fun c H1 => if c = kd then wpw X (.BoolOp (if kd then .And else .Or) (y :: r) p) σ H1 Q else Q c H1 := by
    refine ha sc st x h1 X B μ0 R0 H0 S μ R H σ ρ _ _ o w fun d μ1 R1 H1 n1 w1 => ?_
    by_cases hd : W d μ1
    · refine truD_imp (truD_and w1 (t d μ1 R1 H1 n1 hd)) fun c hw => ?_
      by_cases e : c = kd
      · rw [if_pos e]
        exact bop_bT hb h2 S (o.nx n1) (iteP_t hw.1 (by simpa using e)) fun d μ' R' H' n hw => t _ _ _ _ (n1.trans n) hw
      · rw [if_neg e]; exact hw.2
    · refine truD_imp w1 fun c hw => ?_
      by_cases e : c = kd
      · rw [if_pos e]
        exact bop_bT hb h2 S (o.nx n1) (iteP_t hw (by simpa using e)) fun d μ' R' H' n hw => t _ _ _ _ (n1.trans n) hw
      · exact absurd (iteP_f hw (by simpa using e)) hd
  cases kd with
  | true =>
    refine of_pt (pw_and (pt_wpt x) (pw_wpt _)).pt ?_
    intro pins s I
    refine thn (key pins s I) fun c s1 ⟨H1, I1, q⟩ => ⟨H1, I1, ?_⟩
    cases c with
    | false => exact iteF q
    | true => exact iteT q
  | false =>
    refine of_pt (pw_or (pt_wpt x) (pw_wpt _)).pt ?_
    intro pins s I
    refine thn (key pins s I) fun c s1 ⟨H1, I1, q⟩ => ⟨H1, I1, ?_⟩
    cases c with
    | false => exact iteF q
    | true => exact iteT q
theorem se_ife {c a b : CE} (hcc : ST P hi Γ k N c) (ha : SE P hi Γ k N a) (hb : SE P hi Γ k N b) : SE P hi Γ k N (.ife c a b) := by
  intro sc st e hc X B μ0 R0 H0 S μ R H σ ρ W Q o w t
  cases e <;> first | exact absurd hc Bool.false_ne_true | skip
  rename_i u x y pos
  simp only [chkE, Bool.and_eq_true] at hc
  refine of_pe (pe_ifExp (pt_wpt u) (pe_wpt x) (pe_wpt y)) ?_
  refine hcc sc st u hc.1.1 X B μ0 R0 H0 S μ R H σ ρ _ _ o w fun d μ1 R1 H1 n1 w1 => truD_imp w1 fun c hw => ?_
  cases c with
  | true => exact iteT (ha sc st x hc.1.2 X B μ0 R0 H0 S μ1 R1 H1 σ ρ W Q (o.nx n1) hw fun v d μ' R' H' n r' hw => t _ _ _ _ _ (n1.trans n) r' hw)
  | false => exact iteF (hb sc st y hc.2 X B μ0 R0 H0 S μ1 R1 H1 σ ρ W Q (o.nx n1) hw fun v d μ' R' H' n r' hw => t _ _ _ _ _ (n1.trans n) r' hw)
theorem ite_t' {M : Model} {A : Around} {a b : Sem Bool} {Q : Bool → Shared → Prop} {E : Value → Shared → Prop} {s : Shared} (h : wpAny M A a Q E s) : wpAny M A (if true = true then a else b) Q E s := h
theorem ite_f' {M : Model} {A : Around} {a b : Sem Bool} {Q : Bool → Shared → Prop} {E : Value → Shared → Prop} {s : Shared} (h : wpAny M A b Q E s) : wpAny M A (if false = true then a else b) Q E s := by
  rw [if_neg Bool.false_ne_true]; exact h
theorem st_ife {c a b : CE} (hcc : ST P hi Γ k N c) (ha : ST P hi Γ k N a) (hb : ST P hi Γ k N b) : ST P hi Γ k N (.ife c a b) := by
  intro sc st e hc X B μ0 R0 H0 S μ R H σ ρ W Q o w t
  cases e <;> first | exact absurd hc Bool.false_ne_true | skip
  rename_i u x y pos
  simp only [chkE, Bool.and_eq_true] at hc
  intro pins s I
  show wpAny _ _ (do if ← isTrue u X.env (eval u X.env) then isTrue x X.env (eval x X.env) else isTrue y X.env (eval y X.env)) _ _ s
  refine wpAny_bind (thn ((hcc sc st u hc.1.1 X B μ0 R0 H0 S μ R H σ ρ _ (fun c H1 => ∃ μ1 R1, Nx (P.tb hi X.K B) μ R H μ1 R1 H1 ∧ iteP c (wE Γ a ρ μ1 W) (wE Γ b ρ μ1 W)) o w fun d μ1 R1 H1 n1 w1 => truD_imp w1 fun c hw => ⟨μ1, R1, n1, hw⟩) pins s I) fun c s1 ⟨H1, I1, μ1, R1, n1, hw⟩ => ?_)
  cases c with
  | true => exact ite_t' ((ha sc st x hc.1.2 X B μ0 R0 H0 S μ1 R1 H1 σ ρ W Q (o.nx n1) hw fun d μ' R' H' n hw => t _ _ _ _ (n1.trans n) hw) pins s1 I1)
  | false => exact ite_f' ((hb sc st y hc.2 X B μ0 R0 H0 S μ1 R1 H1 σ ρ W Q (o.nx n1) hw fun d μ' R' H' n hw => t _ _ _ _ (n1.trans n) hw) pins s1 I1)
end
end MP
set_option maxHeartbeats 4000000
/-! MP: displays, arguments, subscripts, isinstance, built-ins, comprehensions. -/
namespace MP
open PySem PySem.Spec PyProof.Rows L2
section
variable {T : Tb} {μ μ2 : Mu} {R H R2 H2 : Hp} {p : Addr} {u : HO}
/-- an object laid on the way is written -/
theorem Nx.hold (n : Nx T μ R H μ2 R2 H2) (hp : H p = none) (rp : R2 p = none) (mp : μ2 p = none) (pB : p ≠ T.B) : Nx T μ R H μ2 R2 (upd H2 p u) := by
  refine ⟨n.r, fun c w h => ?_, fun c w h hc hm => ?_, fun c h => ?_, fun c h hm => n.n c h hm, ?_, fun a d e => ?_⟩
  · rw [upd_ne (ne_of_none h rp)]; exact n.s c w h
  · rw [upd_ne (ne_of_none h hp)]; exact n.h c w h hc hm
  · have : c ≠ p := fun e => h (by rw [e]; exact hp)
    rw [upd_ne this]; exact n.l c h
  · obtain ⟨hB, L, ns, i, c, m, k, h1, h2, h3⟩ := n.b
    exact ⟨hB, L, ns, i, c, m, k, by rw [upd_ne (Ne.symm pB)]; exact h1, h2, h3⟩
  · obtain ⟨h1, h2, h3⟩ := n.o a d e
    have : a ≠ p := fun z => by rw [z, mp] at e; cases e
    exact ⟨h1, h2, h3.mono (Same.refl _) (by rw [upd_ne this])⟩
/-- an object laid on the way is frozen -/
theorem Nx.fix (n : Nx T μ R H μ2 R2 H2) (hp : H p = none) (rp : R2 p = none) (mp : μ2 p = none) (pB : p ≠ T.B) (hu : H2 p = some u) : Nx T μ R H μ2 (upd R2 p u) H2 := by
  have sm : Same R2 (upd R2 p u) := fun c w h => by rw [upd_ne (ne_of_none h rp)]; exact h
  refine ⟨n.r.trans sm, fun c w h => ?_, fun c w h hc hm => n.h c w h hc hm, fun c h => n.l c h, fun c h hm => ?_, ?_, fun a d e => ?_⟩
  · by_cases e : c = p
    · subst e; rw [upd_same] at h; cases h; exact hu
    · rw [upd_ne e] at h; exact n.s c w h
  · have : c ≠ p := fun e => h (by rw [e]; exact hp)
    rw [upd_ne this]; exact n.n c h hm
  · obtain ⟨hB, L, ns, i, c, m, k, h1, h2, h3⟩ := n.b
    refine ⟨by rw [upd_ne (Ne.symm pB)]; exact hB, L, ns, i, c, m, k, h1, ?_, h3⟩
    rw [upd_ne (ne_of_none h2 rp)]; exact h2
  · obtain ⟨h1, h2, h3⟩ := n.o a d e
    have : a ≠ p := fun z => by rw [z, mp] at e; cases e
    exact ⟨by rw [upd_ne this]; exact h1, h2, h3.mono sm rfl⟩
end
section
variable {P : Prog} {hi : PInj P} {Γ : Sg} {k : Nat} {N : List Str}
/-! ### argument lists -/
theorem ses_nil : SEs P hi Γ k N .nil := by
  intro sc st es hc X B μ0 R0 H0 S μ R H σ ρ W Q o w t
  cases es with
  | cons _ _ => exact absurd hc Bool.false_ne_true
  | nil => exact of_pa pa_nil (t [] [] μ R H (Nx.refl o.sub o.bag o.sto) .nil (Nat.zero_le _) (fun _ => rfl) w)
theorem ses_cons {a : CE} {as : CEs} (ha : SE P hi Γ k N a) (hs : SEs P hi Γ k N as) : SEs P hi Γ k N (.cons a as) := by
  intro sc st es hc X B μ0 R0 H0 S μ R H σ ρ W Q o w t
  cases es with
  | nil => exact absurd hc Bool.false_ne_true
  | cons e es =>
    simp only [chkEs, Bool.and_eq_true, Bool.not_eq_true'] at hc
    refine of_pa (pa_cons (pe_wpt e) (pa_wpt es) (star_cons hc.1.1 es X.env)) ?_
    refine ha sc st e hc.1.2 X B μ0 R0 H0 S μ R H σ ρ _ _ o w fun v d μ1 R1 H1 n1 r1 w1 => ?_
    refine hs sc st es hc.2 X B μ0 R0 H0 S μ1 R1 H1 σ ρ _ _ (o.nx n1) w1 fun vs ds μ2 R2 H2 n2 r2 l2 l3 w2 => ?_
    exact t _ _ _ _ _ (n1.trans n2) (.cons (r1.mono n2.r) r2) (by simp [CEs.npl, l2]) (fun hp => by simp only [CEs.plain] at hp; simp [CEs.len, l3 hp]) w2
theorem ses_star {a : CE} {as : CEs} (ha : SE P hi Γ k N a) (hs : SEs P hi Γ k N as) : SEs P hi Γ k N (.star a as) := by
  intro sc st es hc X B μ0 R0 H0 S μ R H σ ρ W Q o w t
  cases es with
  | nil => exact absurd hc Bool.false_ne_true
  | cons e es =>
    cases e <;> first | exact absurd hc Bool.false_ne_true | skip
    rename_i e p
    simp only [chkEs, Bool.and_eq_true] at hc
    refine of_pa (StX.pa_star (pe_wpt e) (pa_wpt es) rfl) ?_
    refine ha sc st e hc.1 X B μ0 R0 H0 S μ R H σ ρ _ _ o w fun v d μ1 R1 H1 n1 r1 w1 => ?_
    have rw1 := r1.rw n1.s n1.o
    generalize hd : vw μ1 d = d' at w1 rw1
    have fin : ∀ (a : Addr) (xs : List V) (ds0 : List D), v = .ref a → (SqT X.K H1 a xs ∨ SqL X.K H1 a xs) → RdAll (P.tb hi X.K B) R1 xs ds0 → wEs Γ as ρ μ1 (fun ds μ2 => W (ds0 ++ ds) μ2) → ∃ p xs, v = V.ref p ∧ (SqT X.K H1 p xs ∨ SqL X.K H1 p xs) ∧ wpa X es σ H1 fun ys H2 => Q (xs ++ ys) H2 := fun a xs ds0 e1 e2 r2 w2 => by
      refine ⟨a, xs, e1, e2, ?_⟩
      refine hs sc st es hc.2 X B μ0 R0 H0 S μ1 R1 H1 σ ρ _ _ (o.nx n1) w2 fun vs ds μ2 R2 H2 n2 r3 l2 l3 w3 => ?_
      exact t _ _ _ _ _ (n1.trans n2) ((r2.mono n2.r).append r3) (Nat.zero_le _) (fun hp => by simp [CEs.plain] at hp) w3
    cases rw1 <;> first | exact w1.elim | skip
    · rename_i q r
      exact fin _ _ _ rfl (.inl q) r w1
    · rename_i q r
      exact fin _ _ _ rfl (.inr (SqL.of q)) r w1
theorem sks_nil : SKs P hi Γ k N .nil := by
  intro sc st ks es hn hp hc X B μ0 R0 H0 S μ R H σ ρ W Q o w t
  cases es with
  | cons _ _ => exact absurd hc Bool.false_ne_true
  | nil => exact of_pk pk_nil (t [] [] μ R H (Nx.refl o.sub o.bag o.sto) .nil rfl w)
theorem sks_cons {a : CE} {as : CEs} (ha : SE P hi Γ k N a) (hs : SKs P hi Γ k N as) : SKs P hi Γ k N (.cons a as) := by
  intro sc st ks es hn hp hc X B μ0 R0 H0 S μ R H σ ρ W Q o w t
  cases es with
  | nil => exact absurd hc Bool.false_ne_true
  | cons e es =>
    obtain ⟨nm, v, pos⟩ := e
    cases ks with
    | nil => cases nm <;> exact absurd hn Bool.false_ne_true
    | cons kk ks =>
      cases nm with
      | none => exact absurd hn Bool.false_ne_true
      | some x =>
        simp only [kwNames, Bool.and_eq_true] at hn
        have hc' : (!isStar v && chkE P N sc a v && chkEs P N sc as (kwVals es)) = true := hc
        simp only [Bool.and_eq_true, Bool.not_eq_true'] at hc'
        refine of_pk (pk_cons (pe_wpt v) (pk_wpt es)) ?_
        refine ha sc st v hc'.1.2 X B μ0 R0 H0 S μ R H σ ρ _ _ o w fun v d μ1 R1 H1 n1 r1 w1 => ?_
        refine hs sc st ks es hn.2 hp hc'.2 X B μ0 R0 H0 S μ1 R1 H1 σ ρ _ _ (o.nx n1) w1 fun vs ds μ2 R2 H2 n2 r2 l2 w2 => ?_
        exact t _ _ _ _ _ (n1.trans n2) (.cons (r1.mono n2.r) r2) (by simp [CEs.len, l2]) w2
theorem sks_star {a : CE} {as : CEs} : SKs P hi Γ k N (.star a as) := by
  intro sc st ks es hn hp hc X B μ0 R0 H0 S μ R H σ ρ W Q o w t
  simp [CEs.plain] at hp
theorem len_line {n : Nat} {ds : List D} {vs : List V} {T : Tb} {R : Hp} (r : RdAll T R vs ds) (l : ds.length = n) (h : n ≤ 1000) : vs.length ≤ sizeLine := by
  rw [r.length, l, sizeLine_eq]; omega
theorem se_tup {as : CEs} (hs : SEs P hi Γ k N as) : SE P hi Γ k N (.tup as) := by
  intro sc st e hc X B μ0 R0 H0 S μ R H σ ρ W Q o w t
  cases e <;> first | exact absurd hc Bool.false_ne_true | skip
  rename_i es kk pos
  simp only [chkE, Bool.and_eq_true, decide_eq_true_eq] at hc
  obtain ⟨⟨hl, hp⟩, hc⟩ := hc
  refine of_pe (pe_tup (pa_wpt es)) ?_
  refine hs sc st es hc X B μ0 R0 H0 S μ R H σ ρ _ _ o w fun vs ds μ1 R1 H1 n1 r1 _ l1 w1 => ?_
  exact ⟨len_line r1 (l1 hp) hl, To.tup (fun v d μ' R' H' n r' hw => t _ _ _ _ _ (n1.trans n) r' hw) n1.s n1.b n1.o r1 w1⟩
theorem se_lst {own : Bool} {as : CEs} (hs : SEs P hi Γ k N as) : SE P hi Γ k N (.lst own as) := by
  intro sc st e hc X B μ0 R0 H0 S μ R H σ ρ W Q o w t
  cases e <;> first | exact absurd hc Bool.false_ne_true | skip
  rename_i es pos
  simp only [chkE, Bool.and_eq_true, decide_eq_true_eq] at hc
  obtain ⟨⟨hl, hp⟩, hc⟩ := hc
  refine of_pe (pe_lst (pa_wpt es)) ?_
  refine hs sc st es hc X B μ0 R0 H0 S μ R H σ ρ _ _ o w fun vs ds μ1 R1 H1 n1 r1 _ l1 w1 => ?_
  refine ⟨len_line r1 (l1 hp) hl, ?_⟩
  cases own with
  | true =>
    rw [if_pos rfl] at w1
    exact To.own (fun v d μ' R' H' n r' hw => t _ _ _ _ _ (n1.trans n) r' hw) n1.s n1.b n1.o r1 w1
  | false =>
    rw [if_neg Bool.false_ne_true] at w1
    exact To.lst (fun v d μ' R' H' n r' hw => t _ _ _ _ _ (n1.trans n) r' hw) n1.s n1.b n1.o r1 w1
theorem se_dct1 {a b : CE} (ha : SE P hi Γ k N a) (hb : SE P hi Γ k N b) : SE P hi Γ k N (.dct1 a b) := by
  intro sc st e hc X B μ0 R0 H0 S μ R H σ ρ W Q o w t
  cases e <;> first | exact absurd hc Bool.false_ne_true | skip
  rename_i ks vs pos
  rcases ks with _ | ⟨_ | x, _ | ⟨_, _⟩⟩ <;> first | exact absurd hc Bool.false_ne_true | skip
  rcases vs with _ | ⟨y, _ | ⟨_, _⟩⟩ <;> first | exact absurd hc Bool.false_ne_true | skip
  simp only [chkE, Bool.and_eq_true] at hc
  refine of_pe (pe_disp (pps_cons (pe_wpt x) (pe_wpt y) pps_nil) rfl rfl (by simp) (by show 1 ≤ 15; decide)) ?_
  intro p hp
  have hB : p ≠ B := fun e => bag_some o.bag (by rw [← (show p = (P.tb hi X.K B).B from e)]; exact hp)
  have n0 := Nx.extra o.sub o.bag o.sto hp (.dK [])
  have mp0 : μ p = none := Nx.mu_some o.sto hp
  have rp0 : R p = none := fr_none o.sub hp
  refine ha sc st x hc.1 X B μ0 R0 H0 S μ R _ σ ρ _ _ (o.nx n0) w fun v d μ1 R1 H1 n1 r1 w1 => ?_
  refine hb sc st y hc.2 X B μ0 R0 H0 S μ1 R1 H1 σ ρ _ _ ((o.nx n0).nx n1) w1 fun u e μ2 R2 H2 n2 r2 w2 => ?_
  have n3 := n1.trans n2
  have hp2 : H2 p = some (.dK []) := n3.h p _ upd_same hB mp0
  obtain ⟨rp2, mp2⟩ := n3.n p (by rw [upd_same]; exact fun z => nomatch z) mp0
  rw [rp0] at rp2
  have fin : ∀ kk : Key, v = kV kk → W (.dct [(kk, e)]) μ2 → H2 p = some (.dK []) ∧ ∃ kvs : List (Key × V), [(v, u)] = kvs.map (fun kv => (kV kv.1, kv.2)) ∧ kvs.length ≤ 15 ∧ Q (.ref p) (upd H2 p (.dK (mergeK [] kvs))) := fun kk ek hw => by
    refine ⟨hp2, [(kk, u)], by rw [ek]; rfl, by show 1 ≤ 15; decide, ?_⟩
    have n4 := n0.trans n3
    have n5 := (n4.hold (u := .dK [(kk, u)]) hp rp2 mp2 hB).fix hp rp2 mp2 hB upd_same
    exact t _ _ _ _ _ n5 (.dct upd_same (.cons (r2.mono fun b o' h => by rw [upd_ne (ne_of_none h rp2)]; exact h) .nil)) hw
  cases r1 <;> first | exact w2.elim | skip
  · exact fin (.inl _) rfl w2
  · exact fin (.inr _) rfl w2
/-! ### built-ins -/
theorem bf_in (b : Bf) : b.name ∈ blN := by
  cases b <;> simp [Bf.name, blN]
theorem bf_boot (b : Bf) : bootBuiltins b.name = some b.v := by
  cases b <;> (simp only [Bf.name, Bf.v]; decide +kernel)
theorem bf_name (b : Bf) : b.name ≠ "__name__" := by
  cases b <;> (simp only [Bf.name]; decide)
theorem bf_shape (b : Bf) : (∃ y, b.v = .builtin y) ∨ (∃ y, b.v = .type y) := by
  cases b <;> first | exact .inl ⟨_, rfl⟩ | exact .inr ⟨_, rfl⟩
theorem se_bcall {b : Bf} {as : CEs} (hs : SEs P hi Γ k N as) : SE P hi Γ k N (.bcall b as) := by
  intro sc st e hc X B μ0 R0 H0 S μ R H σ ρ W Q o w t
  cases e <;> first | exact absurd hc Bool.false_ne_true | skip
  rename_i fe es kws pos
  cases fe <;> first | exact absurd hc Bool.false_ne_true | skip
  rename_i x p
  cases kws with
  | cons _ _ => exact absurd hc Bool.false_ne_true
  | nil =>
  simp only [chkE, Bool.and_eq_true, decide_eq_true_eq] at hc
  obtain ⟨⟨⟨rfl, hg⟩, hp⟩, hc⟩ := hc
  obtain ⟨g1, g2⟩ := S.glob hg
  have hm := S.sg.fa.bl _ (bf_in b)
  have q : wpa X es σ H fun vs H1 => wpc X b.v vs H1 Q := by
    refine hs sc st es hc X B μ0 R0 H0 S μ R H σ ρ _ _ o w fun vs ds μ1 R1 H1 n1 r1 _ l1 w1 => ?_
    exact b_ok b rfl S.calm n1.s n1.b n1.o r1 w1 fun v d μ' R' H' n r' hw => t _ _ _ _ _ (n1.trans n) r' hw
  cases es with
  | nil =>
    cases as with
    | cons _ _ => exact absurd hc Bool.false_ne_true
    | star _ _ => exact absurd hc Bool.false_ne_true
    | nil => exact (b_nil b w).elim
  | cons e es =>
    have hns := noStar_cons (chk_star hc hp).1
    have bb := bf_boot b
    intro pins s I
    refine wpAny_Call_Name_kw (ld_blt I g1 hm bb ?_ (bf_name b) g2)
    have q' := thn (q pos pins s I) fun us s1 ⟨vs, H1, I1, r1, q1⟩ => q1 pins s1 σ us I1 r1
    have bs := bf_shape b
    generalize b.v = v at q' bs
    rcases bs with ⟨y, rfl⟩ | ⟨y, rfl⟩
    · exact PyProof.Rows.callWith_builtin1 q' (star_cons hns.1 es X.env) (back_star hns.2)
    · exact PyProof.Rows.callWith_type1 q' (star_cons hns.1 es X.env) (back_star hns.2)
theorem list_in : ("list" : Str) ∈ blN := by simp [blN]
theorem se_blist {a : CE} (ha : SE P hi Γ k N a) : SE P hi Γ k N (.blist a) := by
  intro sc st e hc X B μ0 R0 H0 S μ R H σ ρ W Q o w t
  cases e <;> first | exact absurd hc Bool.false_ne_true | skip
  rename_i fe es kws pos
  cases fe <;> first | exact absurd hc Bool.false_ne_true | skip
  rename_i x p
  rcases es with _ | ⟨l, _ | ⟨_, _⟩⟩ <;> first | exact absurd hc Bool.false_ne_true | skip
  cases kws with
  | cons _ _ => exact absurd hc Bool.false_ne_true
  | nil =>
  simp only [chkE, Bool.and_eq_true, decide_eq_true_eq, Bool.not_eq_true'] at hc
  obtain ⟨⟨⟨rfl, hg⟩, hst⟩, hc⟩ := hc
  obtain ⟨g1, g2⟩ := S.glob hg
  refine of_pe (pe_callTy call_list_of g1 (S.sg.fa.bl _ list_in) (bf_boot .list) (pa_cons (pe_wpt l) pa_nil (star_cons hst [] X.env)) (by decide) g2 (star_cons hst [] X.env) rfl) ?_
  refine ha sc st l hc X B μ0 R0 H0 S μ R H σ ρ _ _ o w fun v d μ1 R1 H1 n1 r1 w1 => ?_
  have rw1 := r1.rw n1.s n1.o
  generalize vw μ1 d = d' at w1 rw1
  cases rw1 <;> first | exact w1.elim | skip
  · rename_i q r
    exact ⟨_, _, rfl, .inr q, To.own (fun v d μ' R' H' n r' hw => t _ _ _ _ _ (n1.trans n) r' hw) n1.s n1.b n1.o r w1⟩
  · rename_i q r
    exact ⟨_, _, rfl, .inl (SqL.of q), To.own (fun v d μ' R' H' n r' hw => t _ _ _ _ _ (n1.trans n) r' hw) n1.s n1.b n1.o r w1⟩
/-! ### isinstance -/
theorem ty_in (t : Ty) : Str.ofString t.name ∈ blN := by
  cases t <;> (simp only [Ty.name, blN]; decide)
theorem ty_boot (t : Ty) : bootBuiltins (Str.ofString t.name) = some (.type t.name) := by
  cases t <;> (simp only [Ty.name]; decide +kernel)
theorem ty_pe {sc st : Scope} {X : Cx} {B : Addr} {μ0 : Mu} {R0 H0 : Hp} (S : StX P hi Γ k N sc st X B μ0 R0 H0) {t : Ty} {e : Expr} (h : tyName sc t e = true) : PE X e (tC (.ty t.name)) ∧ isStar e = false := by
  cases e <;> first | exact absurd h Bool.false_ne_true | skip
  rename_i x p
  simp only [tyName, Bool.and_eq_true, decide_eq_true_eq] at h
  obtain ⟨rfl, hg⟩ := h
  obtain ⟨g1, g2⟩ := S.glob hg
  exact ⟨pe_bltn g1 (S.sg.fa.bl _ (ty_in t)) (ty_boot t) rfl (by cases t <;> (simp only [Ty.name]; decide)) g2, rfl⟩
theorem ty_pa {sc st : Scope} {X : Cx} {B : Addr} {μ0 : Mu} {R0 H0 : Hp} (S : StX P hi Γ k N sc st X B μ0 R0 H0) : ∀ {ts : List Ty} {es : List Expr}, tyNames sc ts es = true → PA X es (fun σ H Q => Q (ts.map fun t => V.ty t.name) H)
  | [], [], _ => pa_nil
  | [], _ :: _, h => absurd h Bool.false_ne_true
  | _ :: _, [], h => absurd h Bool.false_ne_true
  | t :: ts, e :: es, h => by
    simp only [tyNames, Bool.and_eq_true] at h
    obtain ⟨p1, p2⟩ := ty_pe S h.1
    exact pa_cons p1 (ty_pa S h.2) (star_cons p2 es X.env)
theorem isi_in : ("isinstance" : Str) ∈ blN := by simp [blN]
/-- what isinstance of a value gives: its type -/
theorem ty_any {K : PySem.W.Frag} {B : Addr} {R H : Hp} {v : V} {d : D} (Fa : PrC P K) (r : Rw (P.tb hi K B) R H v d) (h : okT P.cls.length d = true) : ∃ t, TyX K H v t ∧ ((isObj d = false ∧ t = .type (tyOf d)) ∨ ∃ c fs, d = .ins c fs ∧ c < P.cls.length ∧ t = .ref (He.ga K (clsName P c))) := by
  cases d <;> first | (simp [okT] at h; done) | exact ⟨_, tyx_rw (T := P.tb hi K B) r rfl, .inl ⟨rfl, rfl⟩⟩ | skip
  rename_i c fs
  have hl : c < P.cls.length := by simpa [okT] using h
  exact ⟨_, tyx_ins (T := P.tb hi K B) r (Fa.cls c hl), .inr ⟨c, fs, rfl, hl, rfl⟩⟩
theorem kit_any {K : PySem.W.Frag} {d : D} {t : Value} (Fa : PrC P K) (h : (isObj d = false ∧ t = .type (tyOf d)) ∨ ∃ c fs, d = .ins c fs ∧ c < P.cls.length ∧ t = .ref (He.ga K (clsName P c))) (ty : Ty) : PySem.W.kitOne K t (.type ty.name) = some (isiD d ty) := by
  rcases h with ⟨h, rfl⟩ | ⟨c, fs, rfl, hl, rfl⟩
  · exact kit_ty (kit_d h ty)
  · exact Fa.kitT c ty hl
theorem kit_anyC {K : PySem.W.Frag} {d : D} {t : Value} (Fa : PrC P K) (h : (isObj d = false ∧ t = .type (tyOf d)) ∨ ∃ c fs, d = .ins c fs ∧ c < P.cls.length ∧ t = .ref (He.ga K (clsName P c))) {c : Nat} (hc : c < P.cls.length) :
    PySem.W.kitOne K t (.ref (He.ga K (clsName P c))) = some (isC c d) := by
  rcases h with ⟨h, rfl⟩ | ⟨c', fs, rfl, hl, rfl⟩
  · rw [Fa.kit c _ hc (ty_mem h)]
    cases d <;> first | (simp [isObj] at h; done) | rfl
  · exact Fa.kitC c' c hl hc
theorem kits_any {K : PySem.W.Frag} {d : D} {t : Value} (Fa : PrC P K) (h : (isObj d = false ∧ t = .type (tyOf d)) ∨ ∃ c fs, d = .ins c fs ∧ c < P.cls.length ∧ t = .ref (He.ga K (clsName P c))) : ∀ ts : List Ty, PySem.W.kitAny K t (ts.map fun t => Value.type t.name) = some (ts.any fun t => isiD d t)
  | [] => kitAny_nil
  | ty :: ts => by
    refine kitAny_cons (kit_any Fa h ty) (fun e => ?_) (fun e => ?_)
    · rw [List.any_cons, e, Bool.false_or]; exact kits_any Fa h ts
    · rw [List.any_cons, e, Bool.true_or]
theorem se_isi {a : CE} {ty : Ty} (ha : SE P hi Γ k N a) : SE P hi Γ k N (.isi a ty) := by
  intro sc st e hc X B μ0 R0 H0 S μ R H σ ρ W Q o w t
  cases e <;> first | exact absurd hc Bool.false_ne_true | skip
  rename_i fe es kws pos
  cases fe <;> first | exact absurd hc Bool.false_ne_true | skip
  rename_i x p
  rcases es with _ | ⟨e, _ | ⟨f, _ | ⟨_, _⟩⟩⟩ <;> first | exact absurd hc Bool.false_ne_true | skip
  cases kws with
  | cons _ _ => exact absurd hc Bool.false_ne_true
  | nil =>
  simp only [chkE, Bool.and_eq_true, decide_eq_true_eq, Bool.not_eq_true'] at hc
  obtain ⟨⟨⟨⟨rfl, hg⟩, hst⟩, hc⟩, hty⟩ := hc
  obtain ⟨g1, g2⟩ := S.glob hg
  obtain ⟨p1, p2⟩ := ty_pe S hty
  refine of_pe (pe_callB call_isi g1 (S.sg.fa.bl _ isi_in) PyProof.Rows.boot_isinstance (pa_cons (pe_wpt e) (pa_cons p1 pa_nil (star_cons p2 [] X.env)) (star_cons hst _ X.env)) (by decide) g2 (star_cons hst _ X.env) (back_star (by simp [noStar, p2]))) ?_
  refine ha sc st e hc X B μ0 R0 H0 S μ R H σ ρ _ _ o w fun v d μ1 R1 H1 n1 r1 w1 => ?_
  rw [S.sg.nc] at w1
  obtain ⟨t', h1, h2⟩ := ty_any S.sg.fa.cls (r1.rw n1.s n1.o) w1.1
  exact ⟨v, .ty ty.name, t', _, isiD _ ty, rfl, .ty _, h1, kit_any S.sg.fa.cls h2 ty, t _ _ _ _ _ n1 (.bl _) w1.2⟩
theorem ty_paired (ts : List Ty) : Paired ClsV (ts.map fun t => V.ty t.name) (ts.map fun t => Value.type t.name) := by
  induction ts with
  | nil => exact .nil
  | cons t ts ih => exact .cons (.ty _) ih
theorem se_isis {a : CE} {ts : List Ty} (ha : SE P hi Γ k N a) : SE P hi Γ k N (.isis a ts) := by
  intro sc st e hc X B μ0 R0 H0 S μ R H σ ρ W Q o w t
  cases e <;> first | exact absurd hc Bool.false_ne_true | skip
  rename_i fe es kws pos
  cases fe <;> first | exact absurd hc Bool.false_ne_true | skip
  rename_i x p
  rcases es with _ | ⟨e, _ | ⟨f, tl⟩⟩ <;> first | exact absurd hc Bool.false_ne_true | skip
  cases f <;> first | exact absurd hc Bool.false_ne_true | skip
  rename_i fs kk pt
  cases tl with
  | cons _ _ => exact absurd hc Bool.false_ne_true
  | nil =>
  cases kws with
  | cons _ _ => exact absurd hc Bool.false_ne_true
  | nil =>
  simp only [chkE, Bool.and_eq_true, decide_eq_true_eq, Bool.not_eq_true'] at hc
  obtain ⟨⟨⟨⟨⟨hl, rfl⟩, hg⟩, hst⟩, hc⟩, hty⟩ := hc
  obtain ⟨g1, g2⟩ := S.glob hg
  refine of_pe (pe_callB call_isiT g1 (S.sg.fa.bl _ isi_in) PyProof.Rows.boot_isinstance (pa_cons (pe_wpt e) (pa_cons (pe_tup (ty_pa S hty)) pa_nil (star_cons rfl [] X.env)) (star_cons hst _ X.env)) (by decide) g2 (star_cons hst _ X.env) (back_star rfl)) ?_
  refine ha sc st e hc X B μ0 R0 H0 S μ R H σ ρ _ _ o w fun v d μ1 R1 H1 n1 r1 w1 => ?_
  rw [S.sg.nc] at w1
  refine ⟨by rw [List.length_map, sizeLine_eq]; omega, fun q hq => ?_⟩
  have n2 := Nx.new n1.s n1.b n1.o hq (.tup (ts.map fun t => V.ty t.name))
  obtain ⟨t', h1, h2⟩ := ty_any S.sg.fa.cls ((r1.mono n2.r).rw n2.s n2.o) w1.1
  exact ⟨v, q, _, _, _, _, rfl, upd_same, ty_paired ts, h1, kits_any S.sg.fa.cls h2 ts, t _ _ _ _ _ (n1.trans n2) (.bl _) w1.2⟩
theorem cls_lt {c : Nat} {x : Str} (h : clsAt P c x = true) : c < P.cls.length ∧ clsName P c = x := by
  unfold clsAt at h
  split at h
  · rename_i r hr
    refine ⟨(List.getElem?_eq_some_iff.mp hr).1, ?_⟩
    unfold clsName
    rw [hr]
    exact of_decide_eq_true h
  · cases h
theorem se_isc {a : CE} {c : Nat} (ha : SE P hi Γ k N a) : SE P hi Γ k N (.isc a c) := by
  intro sc st e hc X B μ0 R0 H0 S μ R H σ ρ W Q o w t
  cases e <;> first | exact absurd hc Bool.false_ne_true | skip
  rename_i fe es kws pos
  cases fe <;> first | exact absurd hc Bool.false_ne_true | skip
  rename_i x p
  rcases es with _ | ⟨e, _ | ⟨f, tl⟩⟩ <;> first | exact absurd hc Bool.false_ne_true | skip
  cases f <;> first | exact absurd hc Bool.false_ne_true | skip
  rename_i y py
  cases tl with
  | cons _ _ => exact absurd hc Bool.false_ne_true
  | nil =>
  cases kws with
  | cons _ _ => exact absurd hc Bool.false_ne_true
  | nil =>
  simp only [chkE, Bool.and_eq_true, decide_eq_true_eq, Bool.not_eq_true'] at hc
  obtain ⟨⟨⟨⟨⟨rfl, hg⟩, hgy⟩, hcl⟩, hst⟩, hc⟩ := hc
  obtain ⟨g1, g2⟩ := S.glob hg
  obtain ⟨g3, g4⟩ := S.glob hgy
  obtain ⟨hl, rfl⟩ := cls_lt hcl
  have p1 : PE X (.Name (clsName P c) py) (tC (.ref (He.ga X.K (clsName P c)))) := pe_glob g3 (S.sg.fa.cl c hl) rfl g4
  refine of_pe (pe_callB call_isi g1 (S.sg.fa.bl _ isi_in) PyProof.Rows.boot_isinstance (pa_cons (pe_wpt e) (pa_cons p1 pa_nil (star_cons rfl [] X.env)) (star_cons hst _ X.env)) (by decide) g2 (star_cons hst _ X.env) (back_star rfl)) ?_
  refine ha sc st e hc X B μ0 R0 H0 S μ R H σ ρ _ _ o w fun v d μ1 R1 H1 n1 r1 w1 => ?_
  rw [S.sg.nc] at w1
  obtain ⟨t', h1, h2⟩ := ty_any S.sg.fa.cls (r1.rw n1.s n1.o) w1.1
  exact ⟨v, _, t', _, _, rfl, .own _, h1, kit_anyC S.sg.fa.cls h2 hl, t _ _ _ _ _ n1 (.bl _) w1.2⟩
/-! ### subscripts, slices -/
theorem se_sub {a b : CE} (ha : SE P hi Γ k N a) (hb : SE P hi Γ k N b) : SE P hi Γ k N (.sub a b) := by
  intro sc st e hc X B μ0 R0 H0 S μ R H σ ρ W Q o w t
  cases e <;> first | exact absurd hc Bool.false_ne_true | skip
  rename_i l r pos
  simp only [chkE, Bool.and_eq_true, Bool.not_eq_true'] at hc
  have pl : PlainIx r := by
    intro oo ii
    have h := hc.1.1
    cases r <;> first | rfl | (simp [isSlice] at h)
  refine of_pe (pe_ix ix_seq (pe_wpt l) (pe_wpt r) pl) ?_
  refine ha sc st l hc.1.2 X B μ0 R0 H0 S μ R H σ ρ _ _ o w fun x d μ1 R1 H1 n1 rx w1 => ?_
  refine hb sc st r hc.2 X B μ0 R0 H0 S μ1 R1 H1 σ ρ _ _ (o.nx n1) w1 fun y e μ2 R2 H2 n2 ry w2 => ?_
  exact sub_r (T := P.tb hi X.K B) rfl n2.s n2.b n2.o (rx.mono n2.r) ry w2 fun v d μ' R' H' n r' hw => t _ _ _ _ _ (n1.trans (n2.trans n)) r' hw
abbrev wpo (X : Cx) (e : Option Expr) : TO := fun σ H Q => ∀ pins s, Inv X pins σ H s → wpAny (model X.prog X.w) X.A (evalPart e X.env) (fun u s' => ∃ o H', Inv X pins σ H' s' ∧ IsPart u o ∧ Q o H') X.xe s
theorem po_wpt {X : Cx} (e : Option Expr) : PO X e (wpo X e) := ⟨fun pins s σ H Q I h => h pins s I⟩
theorem of_po {X : Cx} {e : Option Expr} {t : TO} (h : PO X e t) {σ : L2.St} {H : Hp} {Q : Option Int → Hp → Prop} (q : t σ H Q) : wpo X e σ H Q := fun pins s I => h.run pins s σ H Q I q
abbrev SO' (P : Prog) (hi : PInj P) (Γ : Sg) (k : Nat) (N : List Str) (co : CO) : Prop := ∀ (sc st : Scope) (e : Option Expr), chkO P N sc co e = true → ∀ (X : Cx) (B : Addr) (μ0 : Mu) (R0 H0 : Hp), StX P hi Γ k N sc st X B μ0 R0 H0 → ∀ (μ : Mu) (R H : Hp) (σ : L2.St) (ρ : List Sl) (W : Option Int → Mu → Prop) (Q : Option Int → Hp → Prop),
  Ok (P.tb hi X.K B) μ0 R0 H0 μ R H σ ρ → wO Γ co ρ μ W → (∀ o μ' R' H', Nx (P.tb hi X.K B) μ R H μ' R' H' → W o μ' → Q o H') → wpo X e σ H Q
theorem so_none : SO' P hi Γ k N .none := by
  intro sc st e hc X B μ0 R0 H0 S μ R H σ ρ W Q o w t
  cases e with
  | some _ => exact absurd hc Bool.false_ne_true
  | none => exact of_po po_none (t _ _ _ _ (Nx.refl o.sub o.bag o.sto) w)
theorem so_some {a : CE} (ha : SE P hi Γ k N a) : SO' P hi Γ k N (.some a) := by
  intro sc st e hc X B μ0 R0 H0 S μ R H σ ρ W Q o w t
  cases e with
  | none => exact absurd hc Bool.false_ne_true
  | some e =>
    refine of_po (po_some (pe_wpt e)) ?_
    refine ha sc st e hc X B μ0 R0 H0 S μ R H σ ρ _ _ o w fun v d μ1 R1 H1 n1 r1 w1 => ?_
    cases r1 <;> first | exact w1.elim | skip
    exact ⟨_, rfl, t _ _ _ _ n1 w1⟩
theorem se_slice {a : CE} {lo hi' : CO} (ha : SE P hi Γ k N a) (hl : SO' P hi Γ k N lo) (hh : SO' P hi Γ k N hi') : SE P hi Γ k N (.slice a lo hi') := by
  intro sc st e hc X B μ0 R0 H0 S μ R H σ ρ W Q o w t
  cases e <;> first | exact absurd hc Bool.false_ne_true | skip
  rename_i l r pos
  cases r <;> first | exact absurd hc Bool.false_ne_true | skip
  rename_i x y z p2
  cases z with
  | some _ => exact absurd hc Bool.false_ne_true
  | none =>
  simp only [chkE, Bool.and_eq_true] at hc
  refine of_pe (pe_slice sl_any (pe_wpt l) (po_wpt x) (po_wpt y)) ?_
  refine ha sc st l hc.1.1 X B μ0 R0 H0 S μ R H σ ρ _ _ o w fun v d μ1 R1 H1 n1 rx w1 => ?_
  refine hl sc st x hc.1.2 X B μ0 R0 H0 S μ1 R1 H1 σ ρ _ _ (o.nx n1) w1 fun lo' μ2 R2 H2 n2 w2 => ?_
  refine hh sc st y hc.2 X B μ0 R0 H0 S μ2 R2 H2 σ ρ _ _ ((o.nx n1).nx n2) w2 fun hi2 μ3 R3 H3 n3 w3 => ?_
  exact sl_r (T := P.tb hi X.K B) rfl n3.s n3.b n3.o (rx.mono (n2.trans n3).r) w3 fun v d μ' R' H' n r' hw => t _ _ _ _ _ (n1.trans (n2.trans (n3.trans n))) r' hw
/-! ### attributes, freezing -/
theorem base_ok {o : Expr} (h : baseB o = true) (x : Str) (env : Env) (whole : Sem Value) : attributeBase o x env whole = whole := by
  unfold attributeBase
  cases o <;> first | rfl | skip
  rename_i f args kws pos
  cases f <;> first | rfl | skip
  rename_i id p
  cases args <;> cases kws <;> first | rfl | skip
  have h' : (id != ("super" : Str)) = true := by
    simp only [baseB, Bool.not_eq_true'] at h
    simp only [bne, h, Bool.not_false]
  simp [h']
theorem fld_ok {f : Nat} {x : Str} (h : fldAt P f x = true) {K : PySem.W.Frag} (Fa : PrC P K) : anF P.an f = x ∧ ∀ c, c < P.cls.length → NoAttr K (He.ga K (clsName P c)) x := by
  simp only [fldAt, Bool.and_eq_true, decide_eq_true_eq, List.all_eq_true] at h
  refine ⟨by unfold anF; rw [h.1]; rfl, fun c hc => ?_⟩
  have hm := h.2 _ (List.getElem_mem hc)
  have q := Fa.fld c _ f (List.getElem?_eq_getElem hc) (by simpa using hm)
  rw [h.1] at q
  exact q
theorem se_attr {a : CE} {f : Nat} (ha : SE P hi Γ k N a) : SE P hi Γ k N (.attr a f) := by
  intro sc st e hc X B μ0 R0 H0 S μ R H σ ρ W Q o w t
  cases e <;> first | exact absurd hc Bool.false_ne_true | skip
  rename_i l x pos
  simp only [chkE, Bool.and_eq_true] at hc
  obtain ⟨⟨hb, hf⟩, hc⟩ := hc
  obtain ⟨rfl, hno⟩ := fld_ok hf S.sg.fa.cls
  refine of_pe (pe_fld (pe_wpt l) (base_ok hb _ _ _)) ?_
  refine ha sc st l hc X B μ0 R0 H0 S μ R H σ ρ _ _ o w fun v d μ1 R1 H1 n1 r1 w1 => ?_
  have rw1 := r1.rw n1.s n1.o
  generalize vw μ1 d = d' at w1 rw1
  cases d' <;> first | exact w1.elim | skip
  rename_i c fs
  obtain ⟨hlt, w1⟩ := w1
  rw [S.sg.nc] at hlt
  cases e1 : fs.lookup f with
  | none => simp only [e1] at w1
  | some d2 =>
    simp only [e1] at w1
    cases rw1 with
    | @ins a dx _ vs _ q r =>
    obtain ⟨y, h1, h2⟩ := r.lookup e1
    exact ⟨a, _, dx, vs, y, rfl, q, (S.sg.fa.cls.cls c hlt).cls, hno c hlt, h1, t _ _ _ _ _ n1 h2 w1⟩
theorem frz_chk {a : CE} {sc : Scope} {e : Expr} (h : chkE P N sc (.frz a) e = true) : isComp e = false ∧ chkE P N sc a e = true := by
  have h' : (!isComp e && chkE P N sc a e) = true := by
    cases e <;> simpa only [chkE] using h
  simpa using h'
theorem se_frz {a : CE} (ha : SE P hi Γ k N a) : SE P hi Γ k N (.frz a) := by
  intro sc st e hc X B μ0 R0 H0 S μ R H σ ρ W Q o w t
  have hc' := (frz_chk hc).2
  refine ha sc st e hc' X B μ0 R0 H0 S μ R H σ ρ _ _ o w fun v d μ1 R1 H1 n1 r1 w1 => ?_
  cases d <;> first | exact t _ _ _ _ _ n1 r1 w1 | skip
  rename_i a'
  cases e1 : μ1 a' with
  | none => simp only [e1] at w1
  | some d2 =>
    simp only [e1] at w1
    cases r1
    obtain ⟨h1, h2, h3⟩ := n1.o a' d2 e1
    cases d2 <;> first | exact h3.elim | skip
    · obtain ⟨vs, h4, h5⟩ := h3
      have n2 := Nx.freeze n1.s n1.b n1.o (by rw [e1]; exact fun z => nomatch z) h4
      exact t _ _ _ _ _ (n1.trans n2) (.lst upd_same (h5.mono n2.r)) w1
    · obtain ⟨vs, h4, h5⟩ := h3
      have n2 := Nx.freeze n1.s n1.b n1.o (by rw [e1]; exact fun z => nomatch z) h4
      exact t _ _ _ _ _ (n1.trans n2) (.dct upd_same (h5.mono n2.r)) w1
    · obtain ⟨dx, vs, h4, h5⟩ := h3
      have n2 := Nx.freeze n1.s n1.b n1.o (by rw [e1]; exact fun z => nomatch z) h4
      exact t _ _ _ _ _ (n1.trans n2) (.ins upd_same (h5.mono n2.r)) w1
end
end MP
set_option maxHeartbeats 4000000
/-! MP: calls. -/
namespace MP
open PySem PySem.Spec PyProof.Rows L2
theorem kw_names {env : Env} {pos : Pos} : ∀ {ks : List Str} {kws : List Keyword}, kwNames ks kws = true → (backToKw pos (keywordEach kws env)).all (·.1.isSome) = true ∧ (backToKw pos (keywordEach kws env)).filterMap (·.1) = ks ∧ (backToKw pos (keywordEach kws env)).any (·.1.isNone) = false ∧ ks.length = kws.length
  | [], [], _ => ⟨rfl, rfl, rfl, rfl⟩
  | [], ⟨nm, _, _⟩ :: _, h => by cases nm <;> exact absurd h Bool.false_ne_true
  | _ :: _, [], h => absurd h Bool.false_ne_true
  | kk :: ks, ⟨none, _, _⟩ :: _, h => absurd h Bool.false_ne_true
  | kk :: ks, ⟨some x, v, p⟩ :: r, h => by
    simp only [kwNames, Bool.and_eq_true, decide_eq_true_eq] at h
    obtain ⟨rfl, h2⟩ := h
    obtain ⟨a, b, c, d⟩ := kw_names (pos := pos) (env := env) h2
    refine ⟨?_, ?_, ?_, by simp [d]⟩
    · show (true && (backToKw pos (keywordEach r env)).all (·.1.isSome)) = true
      rw [a]; rfl
    · show kk :: (backToKw pos (keywordEach r env)).filterMap (·.1) = _
      rw [b]
    · show (false || (backToKw pos (keywordEach r env)).any (·.1.isNone)) = false
      rw [c]; rfl
theorem npl_plain : ∀ {as : CEs}, as.plain = true → as.npl = as.len
  | .nil, _ => rfl
  | .cons _ as, h => by simp only [CEs.plain] at h; simp [CEs.npl, CEs.len, npl_plain h]
  | .star _ _, h => by simp [CEs.plain] at h
section
variable {P : Prog} {hi : PInj P} {Γ : Sg} {k : Nat} {N : List Str} {sc st : Scope} {X : Cx} {B : Addr} {μ0 μ : Mu} {R0 H0 R H : Hp} {σ : L2.St} {ρ : List Sl}
theorem call_code (S : StX P hi Γ k N sc st X B μ0 R0 H0) {f : Nat} {p : Prm} {r : Row} {pl : List Pl} {n : Nat} {star : Bool} {ks : List Str} (C : CallOk P hi X.prog X.w X.K X.mg X.base k f p) (hr : P.rows[f]? = some r) (hp : planOk r.sig n star ks pl = true)
    {A : Around} (hA : Room k A) {pins : List (Addr × Obj)} {s : Shared} {us ws : List Value} {vs zs : List V} {ds es : List D} {W : Po} {Q : VK} {F : Value → Shared → Prop} (e0 : Env0 X.prog X.w X.K X.mg X.base A X.stack s H) (I : Inv X pins σ H s) (n0 : Nx (P.tb hi X.K B) μ0 R0 H0 μ R H)
    (hn : us.length = n ∨ (star = true ∧ n ≤ us.length)) (hk : ws.length = ks.length) (rv : Vals vs us) (rz : Vals zs ws) (rd : RdAll (P.tb hi X.K B) R vs ds) (rd' : RdAll (P.tb hi X.K B) R zs es)
    (hw : pick ds es pl fun l => p l μ Γ.ex W) (t : To (P.tb hi X.K B) μ R H W Q) :
    codeAny (model X.prog X.w) A (.call (.ref (He.fAd X.K r.at_)) ⟨us, ks.zip ws⟩) (fun r s' => match r with | .ok (.ret v) => EP X pins σ Q v s' | .ok _ => False | .error e => X.xe e s') s := by
  obtain ⟨r', hr', C⟩ := C
  obtain rfl : r' = r := Option.some.inj (hr'.symm.trans hr)
  obtain ⟨Wx, tk, hx⟩ := S.ex
  refine codeAny_mono (C B A X.stack s H us vs ks ws zs ds es n star pl μ R Γ.ex W Q (fun cls d H' => ∀ σ, Wx cls d σ H') hA e0 rv rz hp hn hk n0.s n0.b n0.o rd rd' hw t fun c fs μ' R' H' dx vs nx h1 h2 h3 σ' => hx σ' c fs μ' R' H' dx vs (n0.trans nx) h1 h2 h3) fun r s' hq => ?_
  cases r with
  | error e => exact L2.passes_call tk (fun cls d σ H h => h σ) pins σ H s e s' I hq
  | ok fl =>
    cases fl with
    | ret u => exact I.after hq
    | next => exact hq.elim
    | brk => exact hq.elim
    | cont => exact hq.elim
/-- the arguments, then the call -/
theorem args_run (S : StX P hi Γ k N sc st X B μ0 R0 H0) {as kes : CEs} {ks : List Str} (hs : SEs P hi Γ k N as) (h1 : ∀ a, as = .star a .nil → SE P hi Γ k N a) (hks : SKs P hi Γ k N kes) {es : List Expr} {kws : List Keyword} (hc1 : chkEs P N sc as es = true) (hok : okArgs ks as = true) (hn : kwNames ks kws = true)
    (hp : kes.plain = true) (hc2 : chkEs P N sc kes (kwVals kws) = true) {f : Value} {first : List Value} (hk : PySem.W.keepIn X.K f = true) {pos : Pos} {pins : List (Addr × Obj)} {s : Shared} (I : Inv X pins σ H s) (o : Ok (P.tb hi X.K B) μ0 R0 H0 μ R H σ ρ) {W : List D → List D → Mu → Prop} {F : Value → Shared → Prop}
    (w : wEs Γ as ρ μ fun ds μ1 => wEs Γ kes ρ μ1 fun zs μ2 => W ds zs μ2)
    (t : ∀ (s' : Shared) (vs zs : List V) (us ws : List Value) (ds es : List D) (μ' : Mu) (R' H' : Hp), Inv X pins σ H' s' → Nx (P.tb hi X.K B) μ R H μ' R' H' → Vals vs us → Vals zs ws → RdAll (P.tb hi X.K B) R' vs ds → RdAll (P.tb hi X.K B) R' zs es → (us.length = as.npl ∨ ((!as.plain) = true ∧ as.npl ≤ us.length)) → ws.length = ks.length → W ds es μ' →
      wpAny (model X.prog X.w) X.A (call f (first ++ us) (ks.zip ws)) F X.xe s') :
    wpAny (model X.prog X.w) X.A (callWith pos f first (backTo pos (starEach es X.env)) (backToKw pos (keywordEach kws X.env))) F X.xe s := by
  obtain ⟨hall, hfm, hno, hlen⟩ := kw_names (pos := pos) (env := X.env) hn
  have lk : kes.len = ks.length := by rw [(chk_star hc2 hp).2, hlen]; simp [kwVals]
  have ends : ∀ (s' : Shared) (vs : List V) (us : List Value) (ds : List D) (μ1 : Mu) (R1 H1 : Hp), Inv X pins σ H1 s' → Nx (P.tb hi X.K B) μ R H μ1 R1 H1 → Vals vs us → RdAll (P.tb hi X.K B) R1 vs ds → as.npl ≤ ds.length → (as.plain = true → ds.length = as.len) → (wEs Γ kes ρ μ1 fun zs μ2 => W ds zs μ2) →
      wpk X kws σ H1 fun zs H2 => ∀ s2 ws, Inv X pins σ H2 s2 → Vals zs ws → wpAny (model X.prog X.w) X.A (call f (first ++ us) (ks.zip ws)) F X.xe s2 := fun s' vs us ds μ1 R1 H1 I1 n1 r1 q1 l1 l2 w1 => by
    refine hks sc st ks kws hn hp hc2 X B μ0 R0 H0 S μ1 R1 H1 σ ρ _ _ (o.nx n1) w1 fun zs es' μ2 R2 H2 n2 q2 l3 w2 s2 ws I2 rz => ?_
    refine t s2 vs zs us ws ds es' μ2 R2 H2 I2 (n1.trans n2) r1 rz (q1.mono n2.r) q2 ?_ (by rw [← rz.length, q2.length, l3, lk]) w2
    have e : us.length = ds.length := by rw [← r1.length, q1.length]
    by_cases hpl : as.plain = true
    · exact .inl (by rw [e, l2 hpl, npl_plain hpl])
    · exact .inr ⟨by simp [hpl], by rw [e]; exact l1⟩
  by_cases hl : ∃ a, as = .star a .nil
  · obtain ⟨a, rfl⟩ := hl
    have ek : ks = [] := by simpa [okArgs, CEs.plain] using hok
    subst ek
    have ekw : kws = [] := by cases kws with | nil => rfl | cons _ _ => simp at hlen
    subst ekw
    cases es with
    | nil => exact absurd hc1 Bool.false_ne_true
    | cons e es =>
    cases e <;> first | exact absurd hc1 Bool.false_ne_true | skip
    rename_i e p
    simp only [chkEs, Bool.and_eq_true] at hc1
    cases es with
    | cons _ _ => exact absurd hc1.2 Bool.false_ne_true
    | nil =>
    have ev : wpAny (model X.prog X.w) X.A (eval e X.env) (fun v s₁ => PySem.W.StarOf (model X.prog X.w) X.A X.xe v (fun vs s₂ => X.K.In s₂.heap ∧ wpAny (model X.prog X.w) X.A (call f (first ++ vs) []) F X.xe s₂) s₁) X.xe s := by
      have q := h1 a rfl sc st e hc1.1 X B μ0 R0 H0 S μ R H σ ρ (fun d μ1 => seqP (vw μ1 d) fun xs => wEs Γ kes ρ μ1 fun zs μ2 => W xs zs μ2) (fun v H1 => ∃ p xs, v = V.ref p ∧ (SqT X.K H1 p xs ∨ SqL X.K H1 p xs) ∧ ∀ s2 us, Inv X pins σ H1 s2 → Vals xs us → wpAny (model X.prog X.w) X.A (call f (first ++ us) []) F X.xe s2) o (by simpa only [wEs, List.append_nil] using w) fun v d μ1 R1 H1 n1 r1 w1 => ?_
      · refine thn (q pins s I) fun v s1 ⟨x, H1, I1, rx, p, xs, ex, hx, q1⟩ => ?_
        subst ex
        obtain rfl : v = Value.ref p := rx
        exact StX.star_any I1 hx fun us s2 I2 rv => ⟨I2.kIn, q1 s2 us I2 rv⟩
      · have rw1 := r1.rw n1.s n1.o
        have w1 : seqP (vw μ1 d) fun xs => wEs Γ kes ρ μ1 fun zs μ2 => W xs zs μ2 := w1
        generalize vw μ1 d = d' at w1 rw1
        have fin : ∀ (a : Addr) (xs : List V) (ds0 : List D), v = .ref a → (SqT X.K H1 a xs ∨ SqL X.K H1 a xs) → RdAll (P.tb hi X.K B) R1 xs ds0 → (wEs Γ kes ρ μ1 fun zs μ2 => W ds0 zs μ2) → ∃ p xs, v = V.ref p ∧ (SqT X.K H1 p xs ∨ SqL X.K H1 p xs) ∧ ∀ s2 us, Inv X pins σ H1 s2 → Vals xs us → wpAny (model X.prog X.w) X.A (call f (first ++ us) []) F X.xe s2 := fun a xs ds0 e1 e2 r2 w2 => by
          refine ⟨a, xs, e1, e2, fun s2 us I2 rv => ?_⟩
          have ew : W ds0 [] μ1 := by
            cases kes with
            | nil => simpa only [wEs] using w2
            | cons _ _ => simp [CEs.len] at lk
            | star _ _ => simp [CEs.plain] at hp
          exact t s2 xs [] us [] ds0 [] μ1 R1 H1 I2 n1 rv .nil r2 .nil (.inr ⟨rfl, Nat.zero_le _⟩) rfl ew
        cases rw1 <;> first | exact w1.elim | skip
        · rename_i q r
          exact fin _ _ _ rfl (.inl q) r w1
        · rename_i q r
          exact fin _ _ _ rfl (.inr (SqL.of q)) r w1
    exact PySem.W.callWith_S (h₀ := X.base) I.ok.mod.kin hk ev
  · have ev : wpAny (model X.prog X.w) X.A (evalArgs f true (backTo pos (starEach es X.env)) (backToKw pos (keywordEach kws X.env))) (fun a s₁ => X.K.In s₁.heap ∧ wpAny (model X.prog X.w) X.A (call f (first ++ a.pos) a.kw) F X.xe s₁) X.xe s := by
      cases es with
      | nil =>
        cases as with
        | cons _ _ => exact absurd hc1 Bool.false_ne_true
        | star _ _ => exact absurd hc1 Bool.false_ne_true
        | nil =>
          have q := ends s [] [] [] μ R H I (Nx.refl o.sub o.bag o.sto) .nil .nil (Nat.zero_le _) (fun _ => rfl) (by simpa only [wEs] using w)
          refine evalArgs_kw2_nil hall (thn (q pos pins s I) fun ws s2 ⟨zs, H2, I2, rz, q2⟩ => ⟨I2.kIn, ?_⟩)
          rw [hfm]
          exact q2 s2 ws I2 rz
      | cons e es =>
        have he : isStar e = false := by
          cases as with
          | nil => exact absurd hc1 Bool.false_ne_true
          | cons _ _ => simp only [chkEs, Bool.and_eq_true, Bool.not_eq_true'] at hc1; exact hc1.1.1
          | star a as =>
            cases as with
            | nil => exact absurd ⟨a, rfl⟩ hl
            | cons _ _ => simp [okArgs, CEs.plain] at hok
            | star _ _ => simp [okArgs, CEs.plain] at hok
        have q := hs sc st (e :: es) hc1 X B μ0 R0 H0 S μ R H σ ρ _ (fun vs H1 => ∀ s1 us, Inv X pins σ H1 s1 → Vals vs us → wpk X kws σ H1 fun zs H2 => ∀ s2 ws, Inv X pins σ H2 s2 → Vals zs ws → wpAny (model X.prog X.w) X.A (call f (first ++ us) (ks.zip ws)) F X.xe s2) o w fun vs ds μ1 R1 H1 n1 r1 l1 l2 w1 s1 us I1 rv => ends s1 vs us ds μ1 R1 H1 I1 n1 rv r1 l1 l2 w1
        refine evalArgs_kw2 hall (thn (q pos pins s I) fun us s1 ⟨vs, H1, I1, r, q1⟩ => ?_) (star_cons he es X.env)
        refine thn (q1 s1 us I1 r pos pins s1 I1) fun ws s2 ⟨zs, H2, I2, rz, q2⟩ => ⟨I2.kIn, ?_⟩
        rw [hfm]
        exact q2 s2 ws I2 rz
    by_cases hst : (backTo pos (starEach es X.env)).any (·.1) = true
    · have ek : ks = [] := by
        by_cases hpl : as.plain = true
        · rw [back_star (chk_star hc1 hpl).1] at hst; cases hst
        · simp only [okArgs, hpl, Bool.false_or, Bool.and_eq_true, List.isEmpty_iff] at hok
          exact hok.1
      subst ek
      have ekw : kws = [] := by cases kws with | nil => rfl | cons _ _ => simp at hlen
      subst ekw
      exact PySem.W.ks_call hst (PySem.W.keeps_K hk) ev
    · exact PySem.W.callWith_of (Bool.or_eq_false_iff.mpr ⟨by simpa using hst, hno⟩) (PySem.W.keeps_K hk) ev
end
end MP
set_option maxHeartbeats 4000000
/-! MP: calls of defs, classes, methods. -/
namespace MP
open PySem PySem.Spec PyProof.Rows L2
section
variable {P : Prog} {hi : PInj P} {Γ : Sg} {k : Nat} {N : List Str}
theorem se_call {f : Nat} {as kes : CEs} {ks : List Str} {pl : List Pl} (hs : SEs P hi Γ k N as) (h1 : ∀ a, as = .star a .nil → SE P hi Γ k N a) (hks : SKs P hi Γ k N kes) : SE P hi Γ k N (.call f as ks kes pl) := by
  intro sc st e hc X B μ0 R0 H0 S μ R H σ ρ W Q o w t
  cases e <;> first | exact absurd hc Bool.false_ne_true | skip
  rename_i fe es kws pos
  cases fe <;> first | exact absurd hc Bool.false_ne_true | skip
  rename_i x p
  simp only [chkE, Bool.and_eq_true] at hc
  obtain ⟨⟨⟨⟨⟨⟨hok, hg⟩, hra⟩, hc1⟩, hkn⟩, hp⟩, hc2⟩ := hc
  obtain ⟨g1, g2⟩ := S.glob hg
  simp only [wE] at w
  cases hf : Γ.fn f with
  | none => simp only [hf] at w
  | some pr =>
  simp only [hf] at w
  unfold rowAt at hra
  cases hr : P.rows[f]? with
  | none => simp only [hr] at hra; cases hra
  | some r =>
  simp only [hr, Bool.and_eq_true, decide_eq_true_eq] at hra
  obtain ⟨hat, hpl⟩ := hra
  have hm := S.sg.fa.row f r hr (by rw [hat])
  have hk := S.sg.fa.kp f r hr
  have ea : He.fAd X.K r.at_ = He.ga X.K x := by rw [hat]; rfl
  rw [hat] at hm
  rw [ea] at hk
  intro pins s I
  refine wpAny_Call_Name_kw (ld_glob I g1 hm ?_ g2)
  refine args_run (first := []) S hs h1 hks hc1 hok hkn hp hc2 hk I o w fun s' vs zs us ws ds es' μ' R' H' I' n rv rz rd rd' hn hl hw => ?_
  have q := call_code (ks := ks) S (S.sg.fn f pr hf) hr hpl (S.room.mono (Nat.le_succ _)) (F := fun _ _ => True) I'.env0 I' (o.ext.trans n) hn hl rv rz rd rd' hw fun v d μ2 R2 H2 n2 r2 hq => t v d μ2 R2 H2 (n.trans n2) r2 hq
  rw [ea] at q
  exact wpAny_call q
theorem se_mk {c f : Nat} {as kes : CEs} {ks : List Str} {pl : List Pl} (hs : SEs P hi Γ k N as) (h1 : ∀ a, as = .star a .nil → SE P hi Γ k N a) (hks : SKs P hi Γ k N kes) : SE P hi Γ k N (.mk c f as ks kes pl) := by
  intro sc st e hc X B μ0 R0 H0 S μ R H σ ρ W Q o w t
  cases e <;> first | exact absurd hc Bool.false_ne_true | skip
  rename_i fe es kws pos
  cases fe <;> first | exact absurd hc Bool.false_ne_true | skip
  rename_i x p
  simp only [chkE, Bool.and_eq_true] at hc
  obtain ⟨⟨⟨⟨⟨⟨⟨hok, hg⟩, hcl⟩, hra⟩, hc1⟩, hkn⟩, hp⟩, hc2⟩ := hc
  obtain ⟨g1, g2⟩ := S.glob hg
  obtain ⟨hlt, rfl⟩ := cls_lt hcl
  simp only [wE] at w
  cases hf : Γ.fn f with
  | none => simp only [hf] at w
  | some pr =>
  simp only [hf] at w
  unfold rowAt at hra
  cases hr : P.rows[f]? with
  | none => simp only [hr] at hra; cases hra
  | some r =>
  simp only [hr, Bool.and_eq_true, decide_eq_true_eq] at hra
  obtain ⟨hat, hpl⟩ := hra
  have hm := S.sg.fa.cl c hlt
  have M := S.sg.fa.cls.mkr c hlt
  have ea : He.fAd X.K r.at_ = He.ma X.K (He.ga X.K (clsName P c)) "__init__" := by rw [hat]; rfl
  intro pins s I
  refine wpAny_Call_Name_kw (ld_glob I g1 hm ?_ g2)
  refine args_run (first := []) S hs h1 hks hc1 hok hkn hp hc2 M.kp I o w fun s' vs zs us ws ds es' μ' R' H' I' n rv rz rd rd' hn hl hw => ?_
  have hx : H' (s'.heap.objs.size + 1) = none := I'.hok.fresh (Nat.le_succ _)
  have hdx : H' s'.heap.objs.size = none := I'.hok.fresh (Nat.le_refl _)
  have hne : s'.heap.objs.size + 1 ≠ s'.heap.objs.size := Nat.succ_ne_self _
  have I2 := Inv.made (C := He.ga X.K (clsName P c)) I'
  have n2 := Nx.extra n.s n.b n.o hdx (.own (s'.heap.objs.size + 1))
  have n3 := Nx.put (T := P.tb hi X.K B) n2.s n2.b n2.o (p := s'.heap.objs.size + 1) (u := .ins (He.ga X.K (clsName P c)) s'.heap.objs.size []) (d := .ins c []) (.inl (by rw [upd_ne hne]; exact hx)) ⟨s'.heap.objs.size, [], upd_same, .nil⟩
  have n4 := (n.trans n2).trans n3
  have hw2 := hw (s'.heap.objs.size + 1) (Nx.mu_some n.o hx)
  have q := call_code (ks := ks) (us := .ref (s'.heap.objs.size + 1) :: us) (vs := .ref (s'.heap.objs.size + 1) :: vs) S (S.sg.fn f pr hf) hr hpl (S.room.make (He.ga X.K (clsName P c)) us (ks.zip ws)) (F := fun _ _ => True) (I2.env0.make (He.ga X.K (clsName P c)) us (ks.zip ws)) I2 (o.ext.trans n4)
    (hn.imp (fun h => by simp [h]) fun h => ⟨h.1, by simp [h.2]⟩) hl (.cons rfl rv) rz (.cons (.loc _) (rd.mono (n2.r.trans n3.r))) (rd'.mono (n2.r.trans n3.r)) hw2 (Q := fun v H3 => v = .non ∧ Q (.ref (s'.heap.objs.size + 1)) H3) (fun v d μ2 R2 H2 n5 r5 hq => by
      obtain ⟨rfl, hq⟩ := hq
      cases r5
      exact ⟨rfl, t _ _ μ2 R2 H2 (n4.trans n5) (.loc _) hq⟩)
  rw [ea] at q
  refine wpAny_call (make_map I'.kIn M.makes M.init (beq_iff_eq.mp M.fn) (codeAny_mono q fun r s2 hq' => ?_))
  cases r with
  | error e => exact hq'
  | ok fl =>
    cases fl with
    | ret u =>
      obtain ⟨v, H3, I3, rv, ev, q3⟩ := hq'
      subst ev
      exact ⟨rv, ⟨V.ref (s'.heap.objs.size + 1), H3, I3, rfl, q3⟩⟩
    | next => exact hq'.elim
    | brk => exact hq'.elim
    | cont => exact hq'.elim
theorem few_ok {l : List Expr} {kws : List Keyword} {ks : List Str} (hn : noStar l = true) (hk : kwNames ks kws = true) (hl : l.length + kws.length < 28) (p : Pos) (env : Env) : methodCallForm (l.length + kws.length) (backTo p (starEach l env)) (backToKw p (keywordEach kws env)) = true := by
  unfold methodCallForm
  have h1 : (backTo p (starEach l env)).all (!·.1) = true := by
    have := back_star (pos := p) (env := env) hn
    rw [List.all_eq_not_any_not]
    simpa using this
  rw [h1, (kw_names hk).1]
  simp only [Bool.true_and, decide_eq_true_eq]
  split <;> omega
theorem meth_eval {o : Expr} {x : Str} {ap p : Pos} {l : List Expr} {kws : List Keyword} {ks : List Str} (h : mcB o ap p (l.length + kws.length) = true) (hn : noStar l = true) (hk : kwNames ks kws = true) (env : Env) :
    eval (.Call (.Attribute o x ap) l kws p) env = (do
      let ov ← eval o env
      standAt ap.atName
      let (f, first) ← holding [ov] (getMethod ov x (do return (← importBound o env).getD true))
      callWith p f first (backTo p (starEach l env)) (backToKw p (keywordEach kws env))) := by
  simp only [mcB, Bool.and_eq_true, decide_eq_true_eq] at h
  obtain ⟨⟨hb, hline⟩, hl⟩ := h
  rw [arm_eval_Call, base_ok hb]
  have hf := few_ok hn hk hl p env
  have hpos : methodCallPos true o env ap p = pure p := by unfold methodCallPos; simp [hline]
  unfold methodCall
  rw [hf, hpos]
  rfl
theorem meth_at {c m f : Nat} {x : Str} (h : methAt P c m f x = true) : c < P.cls.length ∧ anF P.an m = x ∧ ∃ r, P.cls[c]? = some r ∧ r.meths.lookup m = some f ∧ P.an[m]? = some x := by
  unfold methAt at h
  cases e : P.cls[c]? with
  | none => simp only [e] at h; cases h
  | some r =>
    simp only [e, Bool.and_eq_true, decide_eq_true_eq] at h
    exact ⟨(List.getElem?_eq_some_iff.mp e).1, by unfold anF; rw [h.2]; rfl, r, rfl, h.1, h.2⟩
theorem lk_mem {m f : Nat} : ∀ {l : List (Nat × Nat)}, l.lookup m = some f → (m, f) ∈ l
  | [], h => by cases h
  | (a, b) :: l, h => by
    by_cases e : m = a
    · subst e
      simp [List.lookup] at h
      subst h; exact List.mem_cons_self
    · have e' : (m == a) = false := by simpa using e
      simp only [List.lookup, e'] at h
      exact List.mem_cons_of_mem _ (lk_mem h)
theorem se_meth {c m f : Nat} {a : CE} {as kes : CEs} {ks : List Str} {pl : List Pl} (ha : SE P hi Γ k N a) (hs : SEs P hi Γ k N as) (hks : SKs P hi Γ k N kes) : SE P hi Γ k N (.meth c m f a as ks kes pl) := by
  intro sc st e hc X B μ0 R0 H0 S μ R H σ ρ W Q o w t
  cases e <;> first | exact absurd hc Bool.false_ne_true | skip
  rename_i fe es kws pos
  cases fe <;> first | exact absurd hc Bool.false_ne_true | skip
  rename_i oe x ap
  simp only [chkE, Bool.and_eq_true] at hc
  obtain ⟨⟨⟨⟨⟨⟨⟨⟨hmc, hpn⟩, hma⟩, hra⟩, hca⟩, hc1⟩, hkn⟩, hp⟩, hc2⟩ := hc
  obtain ⟨hlt, hx, cr, hcr, hmf, hanm⟩ := meth_at hma
  have Mt := S.sg.fa.cls.meth c cr m f hcr (lk_mem hmf)
  rw [hanm] at Mt
  simp only [Option.getD_some] at Mt
  simp only [wE] at w
  cases hf : Γ.fn f with
  | none => simp only [hf] at w
  | some pr =>
  simp only [hf] at w
  unfold rowAt at hra
  cases hr : P.rows[f]? with
  | none => simp only [hr] at hra; cases hra
  | some r =>
  simp only [hr, Bool.and_eq_true, decide_eq_true_eq] at hra
  obtain ⟨hat, hpl⟩ := hra
  have ea : He.fAd X.K r.at_ = He.ma X.K (He.ga X.K (clsName P c)) x := by rw [hat]; rfl
  have hns := (chk_star hc1 hpn).1
  have h1 : ∀ a, as = .star a .nil → SE P hi Γ k N a := fun a e => by rw [e] at hpn; simp [CEs.plain] at hpn
  have hok : okArgs ks as = true := by simp [okArgs, hpn]
  have q := ha sc st oe hca X B μ0 R0 H0 S μ R H σ ρ _ (fun v H1 => ∃ a dx vs, v = .ref a ∧ H1 a = some (.ins (He.ga X.K (clsName P c)) dx vs) ∧ vs.lookup x = none ∧ ∀ pins s, Inv X pins σ H1 s → wpAny (model X.prog X.w) X.A (callWith pos (.ref (He.ma X.K (He.ga X.K (clsName P c)) x)) [.ref a] (backTo pos (starEach es X.env)) (backToKw pos (keywordEach kws X.env))) (EP X pins σ Q) X.xe s) o w fun v d μ1 R1 H1 n1 r1 w1 => ?_
  · intro pins s I
    refine PySem.W.methodCall_KW (thn (q pins s I) fun u s1 ⟨v, H1, I1, rx, a, dx, fs, ex, ea, l, q1⟩ => ?_) (meth_eval hmc hns hkn X.env)
    subst ex
    obtain rfl : u = Value.ref a := rx
    exact getmeth_ok I1 ea (S.sg.fa.cls.cls c hlt).cls Mt l (q1 pins s1 I1)
  · have rw1 := r1.rw n1.s n1.o
    cases r1' : vw μ1 d <;> simp only [r1'] at w1 rw1 <;> first | exact w1.elim | skip
    rename_i c' fs
    obtain ⟨⟨rfl, hno⟩, w1⟩ := w1
    cases rw1 with
    | @ins a dx _ vs _ q r2 =>
    refine ⟨a, dx, vs, rfl, q, by rw [← hx]; exact r2.lookup_none hno, fun pins s I => ?_⟩
    refine args_run (first := [.ref a]) S hs h1 hks hc1 hok hkn hp hc2 Mt.kp I (o.nx n1) w1 fun s' vs' zs us ws ds es' μ' R' H' I' n rv rz rd rd' hn hl hw => ?_
    have q := call_code (ks := ks) (us := .ref a :: us) (vs := .ref a :: vs') (star := false) S (S.sg.fn f pr hf) hr hpl (S.room.mono (Nat.le_succ _)) (F := fun _ _ => True) I'.env0 I' ((o.ext.trans n1).trans n)
      (.inl (by rcases hn with h | h
                · simp [h]
                · rw [hpn] at h; simp at h)) hl (.cons rfl rv) rz (.cons (r1.mono n.r) rd) rd' hw fun v d μ2 R2 H2 n2 r2 hq => t v d μ2 R2 H2 ((n1.trans n).trans n2) r2 hq
    rw [ea] at q
    exact wpAny_call q
end
end MP
set_option maxHeartbeats 4000000
/-! MP: operators and calls of own instances; enumerate over tuples. -/
namespace MP
open PySem PySem.Spec PyProof.Rows L2
section
variable {P : Prog} {hi : PInj P} {Γ : Sg} {k : Nat} {N : List Str}
theorem ins_of {T : Tb} {R H : Hp} {v : V} {d : D} {c : Nat} (r : Rw T R H v d) (h : insP c d) : ∃ a dx vs, v = .ref a ∧ H a = some (.ins (T.ca c) dx vs) := by
  cases r <;> first | exact h.elim | skip
  rename_i q r
  obtain rfl := h
  exact ⟨_, _, _, rfl, q⟩
theorem se_opb {op : Bop} {c m f : Nat} {a b : CE} (ha : SE P hi Γ k N a) (hb : SE P hi Γ k N b) : SE P hi Γ k N (.opb op c m f a b) := by
  intro sc st e hc X B μ0 R0 H0 S μ R H σ ρ W Q o w t
  cases e <;> first | exact absurd hc Bool.false_ne_true | skip
  rename_i l op' r pos
  simp only [chkE, Bool.and_eq_true, decide_eq_true_eq] at hc
  obtain ⟨⟨⟨⟨⟨rfl, han⟩, hma⟩, hra⟩, h1⟩, h2⟩ := hc
  obtain ⟨hlt, hx, cr, hcr, hmf, hanm⟩ := meth_at hma
  have Mt := S.sg.fa.cls.meth c cr m f hcr (lk_mem hmf)
  rw [hanm] at Mt
  simp only [Option.getD_some] at Mt
  simp only [wE] at w
  cases hf : Γ.fn f with
  | none => simp only [hf] at w
  | some pr =>
  simp only [hf] at w
  unfold rowAt at hra
  cases hr : P.rows[f]? with
  | none => simp only [hr] at hra; cases hra
  | some r' =>
  simp only [hr, Bool.and_eq_true, decide_eq_true_eq] at hra
  obtain ⟨hat, hpl⟩ := hra
  have ea : He.fAd X.K r'.at_ = He.ma X.K (He.ga X.K (clsName P c)) (dunder op.op.info.2) := by rw [hat]; rfl
  refine of_pe (pe_op (or_wpt _) (pe_wpt l) (pe_wpt r)) ?_
  refine ha sc st l h1 X B μ0 R0 H0 S μ R H σ ρ _ _ o w fun x d μ1 R1 H1 n1 r1 w1 => ?_
  refine hb sc st r h2 X B μ0 R0 H0 S μ1 R1 H1 σ ρ _ _ (o.nx n1) w1 fun y d' μ2 R2 H2 n2 r2 w2 => ?_
  obtain ⟨⟨hi1, hi2⟩, w2⟩ := w2
  obtain ⟨a1, dx1, vs1, rfl, q1⟩ := ins_of ((r1.mono n2.r).rw n2.s n2.o) hi1
  obtain ⟨a2, dx2, vs2, rfl, q2⟩ := ins_of (r2.rw n2.s n2.o) hi2
  intro pins s σ' v u I rx ry
  cases (show v = Value.ref a1 from rx)
  cases (show u = Value.ref a2 from ry)
  obtain ⟨mA, O1, _⟩ := ins_get I.hok q1
  obtain ⟨mB, O2, _⟩ := ins_get I.hok q2
  obtain ⟨od1, J1, _⟩ := O1.look
  obtain ⟨od2, J2, _⟩ := O2.look
  obtain ⟨mm, hF⟩ := I.fr
  have q := call_code (ks := []) (us := [.ref a1, .ref a2]) (vs := [.ref a1, .ref a2]) (ws := []) S (S.sg.fn f pr hf) hr hpl (S.room.mono (Nat.le_succ _)) (F := fun _ _ => True) I.env0 I ((o.ext.trans n1).trans n2) (.inl rfl) rfl (.cons rfl (.cons rfl .nil)) .nil (.cons (r1.mono n2.r) (.cons r2 .nil)) .nil
    (show pick [d, d'] [] [.pos 0, .pos 1] (fun l => pr l μ2 Γ.ex W) from by simp only [pick]; exact w2) fun v d μ3 R3 H3 n3 r3 hq => t v d μ3 R3 H3 ((n1.trans n2).trans n3) r3 hq
  rw [ea] at q
  refine PySem.W.binop_K hF I.ok.mod.kin J1 J2.type (S.sg.fa.cls.sf c hlt) Mt.at_ Mt.fn (wpAny_mono (wpAny_call q) (fun z s' ez => ?_) fun _ _ x => x)
  obtain ⟨y, H', I', rz, qz⟩ := ez
  exact SlX.cmpback rz ⟨y, H', I', rz, qz⟩
theorem se_opc {c m f : Nat} {a : CE} {as : CEs} {pl : List Pl} (ha : SE P hi Γ k N a) (hs : SEs P hi Γ k N as) : SE P hi Γ k N (.opc c m f a as pl) := by
  intro sc st e hc X B μ0 R0 H0 S μ R H σ ρ W Q o w t
  cases e <;> first | exact absurd hc Bool.false_ne_true | skip
  rename_i fe es kws pos
  cases kws with
  | cons _ _ => exact absurd hc Bool.false_ne_true
  | nil =>
  simp only [chkE, Bool.and_eq_true, decide_eq_true_eq] at hc
  obtain ⟨⟨⟨⟨⟨⟨hma, hra⟩, hpn⟩, hl1⟩, hnm⟩, hca⟩, hcs⟩ := hc
  obtain ⟨hlt, hx, cr, hcr, hmf, hanm⟩ := meth_at hma
  have Mt := S.sg.fa.cls.meth c cr m f hcr (lk_mem hmf)
  have Fi := S.sg.fa.cls.fi c cr m f hcr (lk_mem hmf)
  rw [hanm] at Mt Fi
  simp only [Option.getD_some] at Mt Fi
  simp only [wE] at w
  cases hf : Γ.fn f with
  | none => simp only [hf] at w
  | some pr =>
  simp only [hf] at w
  unfold rowAt at hra
  cases hr : P.rows[f]? with
  | none => simp only [hr] at hra; cases hra
  | some r' =>
  simp only [hr, Bool.and_eq_true, decide_eq_true_eq] at hra
  obtain ⟨hat, hpl⟩ := hra
  have ea : He.fAd X.K r'.at_ = He.ma X.K (He.ga X.K (clsName P c)) "__call__" := by rw [hat]; rfl
  obtain ⟨hns, hlen⟩ := chk_star hcs hpn
  cases es with
  | nil => rw [hlen] at hl1; simp at hl1
  | cons e es =>
  obtain ⟨hn1, hn2⟩ := noStar_cons hns
  have key : wpt X fe σ H fun v H1 => ∃ a1, v = .ref a1 ∧ wpa X (e :: es) σ H1 fun vs H2 => StX.InsC X H2 a1 (He.ga X.K (clsName P c)) ∧ ∀ pins s us, Inv X pins σ H2 s → Vals vs us → codeAny (model X.prog X.w) X.A (.call (.ref (He.ma X.K (He.ga X.K (clsName P c)) "__call__")) ⟨.ref a1 :: us, []⟩) (fun r s' => match r with | .ok (.ret v) => EP X pins σ Q v s' | .ok _ => False | .error e => X.xe e s') s := by
    refine ha sc st fe hca X B μ0 R0 H0 S μ R H σ ρ _ _ o w fun x d μ1 R1 H1 n1 r1 w1 => ?_
    obtain ⟨hi0, w1⟩ := w1
    obtain ⟨a1, dx0, vs0, rfl, q0⟩ := ins_of (r1.rw n1.s n1.o) hi0
    refine ⟨a1, rfl, hs sc st (e :: es) hcs X B μ0 R0 H0 S μ1 R1 H1 σ ρ _ _ (o.nx n1) w1 fun vs ds μ2 R2 H2 n2 r2 l2 l3 w2 => ?_⟩
    obtain ⟨hi1, w2⟩ := w2
    obtain ⟨a2, dx1, vs1, e2, q1⟩ := ins_of ((r1.mono n2.r).rw n2.s n2.o) hi1
    cases e2
    refine ⟨.inr ⟨dx1, vs1, q1⟩, fun pins s us I rv => ?_⟩
    have q := call_code (ks := []) (us := .ref a1 :: us) (vs := .ref a1 :: vs) (ws := []) S (S.sg.fn f pr hf) hr hpl (S.room.mono (Nat.le_succ _)) (F := fun _ _ => True) I.env0 I ((o.ext.trans n1).trans n2) (.inl (by simp only [List.length_cons]; rw [← rv.length, r2.length, l3 hpn, npl_plain hpn])) rfl (.cons rfl rv) .nil (.cons (r1.mono n2.r) r2) .nil w2
      fun v d μ3 R3 H3 n3 r3 hq => t v d μ3 R3 H3 ((n1.trans n2).trans n3) r3 hq
    rw [ea] at q
    exact q
  intro pins s I
  have ht : eval (.Call fe (e :: es) [] pos) X.env = (do callWith pos (← eval fe X.env) [] (backTo pos (starEach (e :: es) X.env)) (backToKw pos (keywordEach [] X.env))) := by
    cases fe <;> first | exact absurd hnm Bool.false_ne_true | rfl
  refine Call_ (thn (key pins s I) fun u s1 ⟨v, H1, I1, ru, a1, ev, q⟩ => ?_) ht
  subst ev
  obtain rfl : u = Value.ref a1 := ru
  refine StX.callO_with (thn (q pos pins s1 I1) fun us s2 ⟨vs, H2, I2, rv, hic, q2⟩ => ?_) (star_cons hn1 es X.env) (back_star hn2)
  obtain ⟨ox, od, J, hd⟩ := StX.insC_at I2 hic
  exact ⟨⟨_, ox, od, J, hd⟩, wpAny_call (PySem.W.kco_code I2.kIn J hd Mt.at_ Mt.fn Fi (q2 pins s2 us I2 rv))⟩
/-! ### enumerate over a tuple -/
end
section
open AutoSeq1 (wpAny_loadPart')
theorem new_enumT (a : Addr) (items : Array Value) (n : Nat) (dct : Option Addr) (sl : Array (Option Value)) :
    Meets (Builtin.«enumerate.__new__» ⟨[.type "enumerate", .ref a], []⟩) (fun _ R s => s.heap.get? a = some { cls := .type "tuple", dict := dct, data := .seq items n, slots := sl } ∧
      R (.ok (.ret (.ref (s.heap.push { cls := .type "tuple_iterator", data := .fields #[.ref a, .int 0 0] }).objs.size)))
        { s with heap := (s.heap.push { cls := .type "tuple_iterator", data := .fields #[.ref a, .int 0 0] }).push { cls := .type "enumerate", data := .fields #[.none, .bool false, .ref s.heap.objs.size, rawInt 0, .none, .none] } }) := by
  refine .of_wp fun prog w A R s h => ?_
  obtain ⟨hh, g, d, tk, os⟩ := s
  obtain ⟨ha, h⟩ := h
  have sub := PySem.sub_enumerate
  have isT : Heap.IsTuple (Shared.heap ⟨hh, g, d, tk, os⟩) a items := ⟨_, ha, rfl, n, rfl⟩
  wp_walk using wpAny_loadPart' ha
  refine wpAny_stack_any fun st => wpAny_pure ?_
  split
  · rename_i c _ _ _ _ _
    cases (c == Value.type "enumerate") <;> (wp_walk using wpAny_loadPart' ha, wpAny_pyIter_tuple isT; exact ⟨_, rfl, h⟩)
  · wp_walk using wpAny_loadPart' ha, wpAny_pyIter_tuple isT
    exact ⟨_, rfl, h⟩
end
section
variable {prog : Program} {w : World} {A : Around} {E : Value → Shared → Prop} {s : Shared}
theorem call_enumT {a : Addr} {items : Array Value} {Q : Value → Shared → Prop} (isT : s.heap.IsTuple a items)
    (h : ∀ h', IsEnum h' (s.heap.objs.size + 1) s.heap.objs.size 0 .none → h'.IsTupleIter s.heap.objs.size a 0 → (∀ b o, s.heap.get? b = some o → h'.get? b = some o) → Q (.ref (s.heap.objs.size + 1)) { s with heap := h' }) :
    wpAny (model prog w) A (call (.type "enumerate") [.ref a]) Q E s := by
  obtain ⟨⟨c, dct, dt, sl⟩, ha, hc, n, hd⟩ := isT
  simp only at hc hd
  subst hc hd
  refine callType_new F.called_enumerate (by decide) (F.typeCall_enumerate_1 _) (F.newCall_enumerate_1 _) (fun obj => F.args_object_init_2 obj _) F.entry_enumerate_new (new_enumT a items n dct sl) ⟨ha, ?_⟩
  generalize hn : s.heap.push { cls := .type "tuple_iterator", data := .fields #[.ref a, .int 0 0] } = h1
  have sz : h1.objs.size = s.heap.objs.size + 1 := by rw [← hn, Heap.size_push]
  have it1 : h1.get? s.heap.objs.size = some { cls := .type "tuple_iterator", data := .fields #[.ref a, .int 0 0] } := by rw [← hn]; exact Heap.get?_push_size _ rfl
  have kp : ∀ b o, s.heap.get? b = some o → h1.get? b = some o := fun b o x => by rw [← hn]; exact Heap.get?_push_of_some _ x
  have e2 := Heap.get?_push_size h1 (o := { cls := .type "enumerate", data := .fields #[.none, .bool false, .ref s.heap.objs.size, rawInt 0, .none, .none] }) rfl
  rw [sz] at e2
  show _ ∧ _
  rw [sz]
  exact ⟨⟨_, e2, rfl⟩, h _ e2 ⟨_, Heap.get?_push_of_some _ it1, rfl, rfl⟩ fun b o x => Heap.get?_push_of_some _ (kp b o x)⟩
end
section
def IteT (K : PySem.W.Frag) (a : Addr) : It where
  go := fun i H => ∃ (xs : List V) (x : V), SqT K H a xs ∧ xs[i]? = some x
  yld := fun i H v H' => ∃ q x, v = .ref q ∧ H q = none ∧ H' = upd H q (.tup [.int (i : Nat), x]) ∧ ∀ xs, SqT K H a xs → xs[i]? = some x
  stop := fun i H => ∃ xs : List V, SqT K H a xs ∧ xs.length ≤ i
abbrev EnT (a e it : Addr) (i : Nat) (h : Heap) : Prop := (∃ old, IsEnum h e it ((i : Nat) : Int) old) ∧ h.IsTupleIter it a i ∧ e ≠ it ∧ a ≠ it ∧ e ≠ a
theorem turn_enumT {Pg : Program} {w : World} {K : PySem.W.Frag} {elts : List Expr} {kk : Nat} {tpos : Pos} (a e it : Addr) : Turn Pg w K (.Tuple elts kk tpos) (IteT K a) [e, it] e (EnT a e it) := by
  have two : ∀ {b : Addr}, b ∈ [e, it] → b = e ∨ b = it := fun {b} h => by simpa using h
  have nin : ∀ {b : Addr}, b ∉ [e, it] → b ≠ e ∧ b ≠ it := fun {b} h => by simpa using h
  refine ⟨by simp, fun i h st b hb => ?_, fun i h h' st kp => ?_, ?_, ?_, fun A i s Q E st h => ?_⟩
  · obtain ⟨⟨old, he⟩, ⟨o, ho, hc, hd⟩, _⟩ := st
    rcases two hb with rfl | rfl
    · exact ⟨_, he, fun v q => nomatch q⟩
    · exact ⟨o, ho, fun v q => by rw [hd] at q; cases q⟩
  · obtain ⟨⟨old, he⟩, hit, hne⟩ := st
    exact ⟨⟨old, kp e (by simp) _ he⟩, hit.at fun o q => kp it (by simp) o q, hne⟩
  · intro X hP hw hK hc i pins s σ H E I hf st hg
    subst hP hw hK
    obtain ⟨⟨old, he⟩, hit, hne, hai, hea⟩ := st
    obtain ⟨xs, x, hq, hx⟩ := hg
    obtain ⟨its, rv, p, hz⟩ := I.tuple hq
    obtain ⟨u, hu, ru⟩ := rv.get hx
    have hi : i < its.toArray.size := by
      have := (List.getElem?_eq_some_iff.mp hu).1
      simpa using this
    have hel : e < s.heap.objs.size := Heap.lt_size he
    have hil : it < s.heap.objs.size := by obtain ⟨_, q, _⟩ := hit; exact Heap.lt_size q
    have D := Draws.tuple (prog := X.prog) (w := X.w) (A := X.A.in1) (show X.A.in1.handled = none from I.ok.hd hc) it a hai its.toArray
    refine wpAny_pyNext_enum_itemC D he ⟨hit, p⟩ hi hne (by simp [hne, hea]) fun y h' tk hy ho st' hT hsz hk => ?_
    obtain rfl : u = y := by
      have : its.toArray[i]? = some u := by simpa using hu
      exact Option.some.inj (this.symm.trans hy)
    refine ⟨_, rfl, wpAny_letOwnedTupleGo_enum (s := { s with heap := h', toks := tk + 1 }) ho fun h2 he2 sb => ?_⟩
    have tup2 : h2.get? s.heap.objs.size = some { cls := .type "tuple", data := .seq #[.int i tk, u] } := (sb.2 _ (Nat.ne_of_gt hel)).trans hT
    have new : ObjOk X.prog X.w (upd H s.heap.objs.size (.tup [.int (i : Nat), x])) h2 s.heap.objs.size (.tup [.int (i : Nat), x]) := ⟨by show 2 ≤ sizeLine; decide, [.int i tk, u], .cons ⟨_, rfl⟩ (.cons ru .nil), _, tup2, rfl, _, rfl⟩
    have I1 := I.turnedNew (t' := tk + 1) (ch := [e, it]) (fun b ob hb q => (sb.2 b (nin hb).1).trans (hk b ob (nin hb).1 (nin hb).2 q)) hf (Nat.le_refl _) new
    refine ⟨.ref s.heap.objs.size, _, I1, rfl, ⟨_, x, rfl, I.hok.fresh (Nat.le_refl _), rfl, fun ys hy => by rw [I.tuple_inj hy hq]; exact hx⟩, ⟨⟨u, ?_⟩, st'.1.at fun o q => (sb.2 it (Ne.symm hne)).trans q, hne, hai, hea⟩, fun b hb => ?_⟩
    · rw [show ((i + 1 : Nat) : Int) = (i : Int) + 1 by omega]; exact he2
    · have hlt : b < s.heap.objs.size := by rcases two hb with rfl | rfl <;> assumption
      rw [upd_ne (Nat.ne_of_lt hlt)]
      exact (hf b hb).1
  · intro X hP hw hK hc i pins s σ H E I hf st hg
    subst hP hw hK
    obtain ⟨⟨old, he⟩, hit, hne, hai, hea⟩ := st
    obtain ⟨xs, hq, hx⟩ := hg
    obtain ⟨its, rv, p, hz⟩ := I.tuple hq
    obtain ⟨f0, f1, f2, f3, f4, f5⟩ := hf it (by simp)
    have hl := rv.length
    have hn : its.toArray[i]? = none := by simp; omega
    have D : Draws X.prog X.w X.A.in1 it [it, a] i (fun _ _ => False) (fun j h => j = i ∧ h.IsTupleIter it a j ∧ h.IsTuple a its.toArray) := by
      refine ⟨fun j h st => ?_, fun j h h' st kp => ⟨st.1, st.2.1.at fun o e => kp it (by simp) o e, st.2.2.at fun o e => kp a (by simp) o e⟩, fun j s Q E hj st _ => absurd st.1 (Nat.ne_of_lt hj), fun s Q E st hE => wpAny_nextOf_tuple_end (show X.A.in1.handled = none from I.ok.hd hc) st.2.1 st.2.2 hn hE⟩
      obtain ⟨_, ⟨o, ho, _⟩, _⟩ := st
      exact ⟨o, ho⟩
    exact wpAny_pyNext_enum_endD D he ⟨rfl, hit, p⟩ fun h' eb => ⟨rfl, I.turned (t' := s.toks) (fun b o hb q => eb b o hb q) f0 f1 f3 f4 f5⟩
  · obtain ⟨⟨_, he⟩, _⟩ := st
    exact wpAny_pyIter_enum he h
theorem it_enumT {T : Tb} {R : Hp} {a : Addr} {xs : List V} {ds : List D} (q : SqT T.K R a xs) (r : RdAll T R xs ds) : ItOk T R (IteT T.K a) (enumD ds) := by
  have hl : (enumD ds).length = xs.length := by simp [enumD, r.length]
  refine ⟨fun H => SqT T.K H a xs, fun i H v H' => i < xs.length ∧ ∃ q x, v = .ref q ∧ H q = none ∧ H' = upd H q (.tup [.int (i : Nat), x]) ∧ xs[i]? = some x, ?_, fun Rc Hc s1 s2 => sqT_mono s2 (sqT_mono s1 q), fun i μc Rc Hc x Hc' s1 s2 b o y => ?_⟩
  · rw [hl]
    refine ⟨fun i H hi q => ⟨xs, xs[i], q, by simp [hi]⟩, fun H q => ⟨xs, q, Nat.le_refl _⟩, fun i H v H' hi q y => ?_⟩
    obtain ⟨p, x, e1, e2, e3, e4⟩ := y
    exact ⟨hi, p, x, e1, e2, e3, e4 xs q⟩
  · obtain ⟨_, p, x', e1, e2, e3, e5⟩ := y
    obtain ⟨d, hd, rd⟩ := r.get e5
    obtain ⟨Rc', n, r'⟩ := pair_yield s2 b o e2 e1 e3 (.int (i : Nat)) (rd.mono s1)
    exact ⟨_, Rc', enum_get hd, n, r'⟩
end
end MP
set_option maxHeartbeats 4000000
/-! MP: what is walked; comprehensions; methods of built-in classes; f-strings. -/
namespace MP
open PySem PySem.Spec PyProof.Rows L2
section
variable {T : Tb} {R : Hp}
theorem it_str {z : Str} : ItOk T R (Its z) (signsD z) := by
  have e : (signsD z).length = z.cps.size := by simp [signsD]
  refine ⟨(fun _ => True), _, by rw [e]; exact walk_str, fun _ _ _ _ => trivial, fun i μc Rc Hc x Hc' s1 s2 b o y => ?_⟩
  obtain ⟨rfl, c, hc, rfl⟩ := y
  refine ⟨.str ⟨#[c]⟩, Rc, ?_, Nx.refl s2 b o, .str _⟩
  simp [signsD, hc]
end
section
variable {P : Prog} {hi : PInj P} {Γ : Sg} {k : Nat} {N : List Str}
/-! ### what is walked -/
theorem si_seq {a : CE} (ha : SE P hi Γ k N a) : SI P hi Γ k N (.seq a) := by
  intro sc st e tg hc X B μ0 R0 H0 S μ R H σ ρ W Q o w t
  simp only [chkI, Bool.and_eq_true] at hc
  have key : wpt X e σ H fun x H1 => (∃ a, x = .ref a ∧ (∃ xs, SqL X.K H1 a xs) ∧ Q (Itl X.K a) H1) ∨ (∃ a, x = .ref a ∧ (∃ xs, SqT X.K H1 a xs) ∧ Q (Itt X.K a) H1) ∨ ∃ z, x = .str z ∧ Q (Its z) H1 := by
    refine wpt_inv (ha sc st e hc.1 X B μ0 R0 H0 S μ R H σ ρ _ _ o w fun x d μ1 R1 H1 n1 rx w1 ⟨_, _, I1⟩ => ?_)
    cases rx <;> first | exact w1.elim | skip
    · rename_i z
      exact .inr (.inr ⟨z, rfl, t _ _ _ _ _ n1 it_str (fun _ => by
        have : (signsD z).length = z.cps.size := by simp [signsD]
        rw [this]
        have h1 : z.length ≤ 1000 := w1.1
        have : z.length = z.cps.size := rfl
        rw [sizeLine_eq]; omega) w1.2⟩)
    · rename_i q r
      obtain ⟨_, _, _, hz⟩ := I1.tuple (sqT_mono n1.s q)
      exact .inr (.inl ⟨_, rfl, ⟨_, sqT_mono n1.s q⟩, t _ _ _ _ _ n1 (it_tup q r) (fun _ => by rw [← r.length]; exact hz) w1⟩)
    · rename_i q r
      obtain ⟨_, _, _, hz⟩ := I1.list (SqL.of (n1.s _ _ q))
      exact .inl ⟨_, rfl, ⟨_, SqL.of (n1.s _ _ q)⟩, t _ _ _ _ _ n1 (it_list q r) (fun _ => by rw [← r.length]; exact hz) w1⟩
  intro pins s I
  refine thn (key pins s I) fun v s1 ⟨x, H1, I1, r1, q1⟩ => ?_
  rcases q1 with ⟨a, rfl, ⟨xs, hq⟩, q⟩ | ⟨a, rfl, ⟨xs, hq⟩, q⟩ | ⟨z, rfl, q⟩
  · cases r1
    obtain ⟨its, rv, p, hz⟩ := I1.list hq
    exact wpAny_pyIter_list p.isList (pi_one (tk := s1.toks) I1 _ (turn_list a _) ⟨_, Heap.get?_push_size _ rfl, rfl, rfl⟩ q)
  · cases r1
    obtain ⟨its, rv, p, hz⟩ := I1.tuple hq
    exact wpAny_pyIter_tuple (show s1.heap.IsTuple a its.toArray from p) (pi_one (tk := s1.toks) I1 _ (turn_tuple a _) ⟨_, Heap.get?_push_size _ rfl, rfl, rfl⟩ q)
  · obtain ⟨u, rfl⟩ := r1
    by_cases asc : z.cps.all (· < 128) = true
    · exact wpAny_pyIter_ascii asc (pi_one (tk := s1.toks) I1 _ (turn_str _ z u "str_ascii_iterator" (.inl rfl)) ⟨_, Heap.get?_push_size _ rfl, rfl, rfl⟩ q)
    · exact wpAny_pyIter_wide (by simpa using asc) (pi_one (tk := s1.toks) I1 _ (turn_str _ z u "str_iterator" (.inr rfl)) ⟨_, Heap.get?_push_size _ rfl, rfl, rfl⟩ q)
theorem bl_rng : ("range" : Str) ∈ blN := by simp [blN]
theorem bl_zip : ("zip" : Str) ∈ blN := by simp [blN]
theorem bl_enum : ("enumerate" : Str) ∈ blN := by simp [blN]
theorem si_rng1 {a : CE} (ha : SE P hi Γ k N a) : SI P hi Γ k N (.rng1 a) := by
  intro sc st e tg hc X B μ0 R0 H0 S μ R H σ ρ W Q o w t
  cases e <;> first | exact absurd hc Bool.false_ne_true | skip
  rename_i fe es kws pos
  cases fe <;> first | exact absurd hc Bool.false_ne_true | skip
  rename_i x p
  rcases es with _ | ⟨e, _ | ⟨_, _⟩⟩ <;> first | exact absurd hc Bool.false_ne_true | skip
  cases kws with
  | cons _ _ => exact absurd hc Bool.false_ne_true
  | nil =>
  simp only [chkI, Bool.and_eq_true, decide_eq_true_eq, Bool.not_eq_true'] at hc
  obtain ⟨⟨⟨rfl, hg⟩, hst⟩, hc⟩ := hc
  obtain ⟨g1, g2⟩ := S.glob hg
  refine of_pi (pi_range1 g1 (S.sg.fa.bl _ bl_rng) (pa_cons (pe_wpt e) pa_nil (star_cons hst [] X.env)) (star1 hst X.env)) ?_
  refine ha sc st e hc X B μ0 R0 H0 S μ R H σ ρ _ _ o w fun x d μ1 R1 H1 n1 rx w1 => ?_
  cases rx <;> first | exact w1.elim | skip
  exact ⟨_, rfl, w1.1.1, w1.1.2, t _ _ _ _ _ n1 it_rng id w1.2⟩
theorem si_rng2 {a b : CE} (ha : SE P hi Γ k N a) (hb : SE P hi Γ k N b) : SI P hi Γ k N (.rng2 a b) := by
  intro sc st e tg hc X B μ0 R0 H0 S μ R H σ ρ W Q o w t
  cases e <;> first | exact absurd hc Bool.false_ne_true | skip
  rename_i fe es kws pos
  cases fe <;> first | exact absurd hc Bool.false_ne_true | skip
  rename_i x p
  rcases es with _ | ⟨e, _ | ⟨f, _ | ⟨_, _⟩⟩⟩ <;> first | exact absurd hc Bool.false_ne_true | skip
  cases kws with
  | cons _ _ => exact absurd hc Bool.false_ne_true
  | nil =>
  simp only [chkI, Bool.and_eq_true, decide_eq_true_eq, Bool.not_eq_true'] at hc
  obtain ⟨⟨⟨⟨⟨rfl, hg⟩, hst⟩, hst2⟩, hc1⟩, hc2⟩ := hc
  obtain ⟨g1, g2⟩ := S.glob hg
  refine of_pi (pi_range2 g1 (S.sg.fa.bl _ bl_rng) (pa_cons (pe_wpt e) (pa_cons (pe_wpt f) pa_nil (star_cons hst2 [] X.env)) (star_cons hst _ X.env)) ((star_cons hst _ X.env).trans (by rw [star1 hst2 X.env])) (star1 hst2 X.env)) ?_
  refine ha sc st e hc1 X B μ0 R0 H0 S μ R H σ ρ _ _ o w fun x d μ1 R1 H1 n1 rx w1 => ?_
  refine hb sc st f hc2 X B μ0 R0 H0 S μ1 R1 H1 σ ρ _ _ (o.nx n1) w1 fun y d' μ2 R2 H2 n2 ry w2 => ?_
  cases rx <;> first | exact w2.elim | skip
  cases ry <;> first | exact w2.elim | skip
  exact ⟨_, _, rfl, w2.1, t _ _ _ _ _ (n1.trans n2) it_rng id w2.2⟩
theorem zip_le {R : Hp} {T : Tb} {ys : List V} {es : List D} (h : ys.length ≤ sizeLine) (r : RdAll T R ys es) (ds : List D) : (zipD ds es).length ≤ sizeLine := by
  rw [zip_len, ← r.length]; omega
theorem si_zip {a b : CE} (ha : SE P hi Γ k N a) (hb : SE P hi Γ k N b) : SI P hi Γ k N (.zip a b) := by
  intro sc st e tg hc X B μ0 R0 H0 S μ R H σ ρ W Q o w t
  cases e <;> first | exact absurd hc Bool.false_ne_true | skip
  rename_i fe es kws pos
  cases fe <;> first | exact absurd hc Bool.false_ne_true | skip
  rename_i x p
  rcases es with _ | ⟨e, _ | ⟨f, _ | ⟨_, _⟩⟩⟩ <;> first | exact absurd hc Bool.false_ne_true | skip
  cases kws with
  | cons _ _ => exact absurd hc Bool.false_ne_true
  | nil =>
  simp only [chkI, Bool.and_eq_true, decide_eq_true_eq, Bool.not_eq_true'] at hc
  obtain ⟨⟨⟨⟨⟨⟨htg, rfl⟩, hg⟩, hst⟩, hst2⟩, hc1⟩, hc2⟩ := hc
  obtain ⟨g1, g2⟩ := S.glob hg
  cases tg <;> first | exact absurd htg Bool.false_ne_true | skip
  rename_i elts kk tpos
  refine of_pi (RZ.pi_zipA g1 (S.sg.fa.bl _ bl_zip) (pa_cons (pe_wpt e) (pa_cons (pe_wpt f) pa_nil (star_cons hst2 [] X.env)) (star_cons hst _ X.env)) (star_cons hst _ X.env) (back_star (by simp [noStar, hst2]))) ?_
  refine ha sc st e hc1 X B μ0 R0 H0 S μ R H σ ρ _ _ o w fun x d μ1 R1 H1 n1 rx w1 => ?_
  refine wpt_inv (hb sc st f hc2 X B μ0 R0 H0 S μ1 R1 H1 σ ρ _ _ (o.nx n1) w1 fun y d' μ2 R2 H2 n2 ry w2 ⟨_, _, I2⟩ => ?_)
  cases rx <;> first | exact w2.elim | skip
  · rename_i q r
    cases ry <;> first | exact w2.elim | skip
    rename_i q' r'
    obtain ⟨_, _, _, hz⟩ := I2.tuple (sqT_mono n2.s q')
    have hz' := zip_le (ys := _) hz r'
    exact ⟨_, _, _, _, rfl, .inr ⟨sqT_mono n2.s (sqT_mono n2.r q), sqT_mono n2.s q', t _ _ _ _ _ (n1.trans n2) (it_zipT (sqT_mono n2.r q) (r.mono n2.r) q' r') (fun _ => hz' _) w2⟩⟩
  · rename_i q r
    cases ry <;> first | exact w2.elim | skip
    rename_i q' r'
    obtain ⟨_, _, _, hz⟩ := I2.list (SqL.of (n2.s _ _ q'))
    have hz' := zip_le (ys := _) hz r'
    exact ⟨_, _, _, _, rfl, .inl ⟨SqL.of (n2.s _ _ (n2.r _ _ q)), SqL.of (n2.s _ _ q'), t _ _ _ _ _ (n1.trans n2) (it_zip (n2.r _ _ q) (r.mono n2.r) q' r') (fun _ => hz' _) w2⟩⟩
def iEnA (K : PySem.W.Frag) (ta : TA) : TI := fun σ H R => ta σ H fun vs H1 => ∃ a xs, vs = [.ref a] ∧ ((SqL K H1 a xs ∧ R (Ite K a) H1) ∨ (SqT K H1 a xs ∧ R (IteT K a) H1))
theorem pi_enA {X : Cx} {e : Expr} {ta : TA} {p pos tpos : Pos} {elts : List Expr} {kk : Nat} (hg : Gl X "enumerate") (hm : X.mg "enumerate" = none) (ha : PA X [e] ta) (hs : starEach [e] X.env = [(false, eval e X.env)]) : PI X (.Tuple elts kk tpos) (.Call (.Name "enumerate" p) [e] [] pos) (iEnA X.K ta) := by
  refine ⟨fun pins s σ H R I h => Call_ (ld_blt I hg hm boot_enumerate (PyProof.Rows.callWith_type1 (thn (ha.run pos pins s σ H _ I h) fun us s1 ⟨vs, H1, I1, r1, a, xs, ex, q⟩ => ?_) hs rfl))⟩
  subst ex
  rcases r1 with _ | ⟨r, _ | ⟨_, _⟩⟩
  cases r
  have two : ∀ {b : Addr}, b ∈ [s1.heap.objs.size + 1, s1.heap.objs.size] → s1.heap.objs.size ≤ b := fun {b} hb => by
    have e' : b = s1.heap.objs.size + 1 ∨ b = s1.heap.objs.size := by simpa using hb
    rcases e' with rfl | rfl
    · exact Nat.le_succ _
    · exact Nat.le_refl _
  rcases q with ⟨hq, q⟩ | ⟨hq, q⟩
  · obtain ⟨its, rv, p', hz⟩ := I1.list hq
    refine call_enumerate_list p'.isList fun h' he hit _ hk => wpAny_pyIter_enum he ?_
    exact ⟨_, [s1.heap.objs.size + 1, s1.heap.objs.size], _, _, H1, rfl, I1.kept (t' := s1.toks) hk, turn_enum a _ s1.heap.objs.size, ⟨⟨.none, he⟩, hit, Nat.succ_ne_self _⟩, fun b hb => I1.fpOk (two hb) (I1.hok.fresh (two hb)), q⟩
  · obtain ⟨its, rv, p', hz⟩ := I1.tuple hq
    have hlt : a < s1.heap.objs.size := by obtain ⟨o, ho, _⟩ := p'; exact Heap.lt_size ho
    refine call_enumT p' fun h' he hit hk => wpAny_pyIter_enum he ?_
    exact ⟨_, [s1.heap.objs.size + 1, s1.heap.objs.size], _, _, H1, rfl, I1.kept (t' := s1.toks) hk, turn_enumT a _ s1.heap.objs.size, ⟨⟨.none, he⟩, hit, Nat.succ_ne_self _, Nat.ne_of_lt hlt, Nat.ne_of_gt (Nat.lt_succ_of_lt hlt)⟩, fun b hb => I1.fpOk (two hb) (I1.hok.fresh (two hb)), q⟩
theorem si_enum {a : CE} (ha : SE P hi Γ k N a) : SI P hi Γ k N (.enum a) := by
  intro sc st e tg hc X B μ0 R0 H0 S μ R H σ ρ W Q o w t
  cases e <;> first | exact absurd hc Bool.false_ne_true | skip
  rename_i fe es kws pos
  cases fe <;> first | exact absurd hc Bool.false_ne_true | skip
  rename_i x p
  rcases es with _ | ⟨e, _ | ⟨_, _⟩⟩ <;> first | exact absurd hc Bool.false_ne_true | skip
  cases kws with
  | cons _ _ => exact absurd hc Bool.false_ne_true
  | nil =>
  simp only [chkI, Bool.and_eq_true, decide_eq_true_eq, Bool.not_eq_true'] at hc
  obtain ⟨⟨⟨⟨htg, rfl⟩, hg⟩, hst⟩, hc⟩ := hc
  obtain ⟨g1, g2⟩ := S.glob hg
  cases tg <;> first | exact absurd htg Bool.false_ne_true | skip
  rename_i elts kk tpos
  refine of_pi (pi_enA g1 (S.sg.fa.bl _ bl_enum) (pa_cons (pe_wpt e) pa_nil (star_cons hst [] X.env)) (star1 hst X.env)) ?_
  refine wpt_inv (ha sc st e hc X B μ0 R0 H0 S μ R H σ ρ _ _ o w fun x d μ1 R1 H1 n1 rx w1 ⟨_, _, I1⟩ => ?_)
  cases rx <;> first | exact w1.elim | skip
  · rename_i q r
    obtain ⟨_, _, _, hz⟩ := I1.tuple (sqT_mono n1.s q)
    exact ⟨_, _, rfl, .inr ⟨sqT_mono n1.s q, t _ _ _ _ _ n1 (it_enumT q r) (fun _ => by simp only [enumD, List.length_zipWith, List.length_range, ← r.length]; omega) w1⟩⟩
  · rename_i q r
    obtain ⟨_, _, _, hz⟩ := I1.list (SqL.of (n1.s _ _ q))
    exact ⟨_, _, rfl, .inl ⟨SqL.of (n1.s _ _ q), t _ _ _ _ _ n1 (it_enum q r) (fun _ => by simp only [enumD, List.length_zipWith, List.length_range, ← r.length]; omega) w1⟩⟩

/-! ### comprehensions -/
theorem lc_ok {T : Tb} {μ1 : Mu} {R1 H1 : Hp} {J : It} {xs : List D} (it : ItOk T R1 J xs) (s1 : Same R1 H1) (b1 : BagOk T.B R1 H1) (o1 : StoOk T R1 H1 μ1) {g : TG} {tt : TT} {te : TE} {vs : List Nat} {σ : L2.St} {A : Addr} {Q : VK}
    {bind : D → (List Sl → Prop) → Prop} {cond : List Sl → Mu → (Bool → Mu → Prop) → Prop} {elt : List Sl → Mu → Po → Prop} {W : List D → Mu → Prop} (hA : H1 A = none)
    (turn : ∀ (v : V) (d : D) (μ : Mu) (R H : Hp) (P : List Sl → Prop) (Qg : L2.St → Hp → Prop), Nx T μ1 R1 H1 μ R H → Rd T R v d → bind d P →
      (∀ σ2 ρ2, P ρ2 → wipe σ2 vs = wipe σ vs →
        (∀ (Pc : Bool → Mu → Prop) (Qc : Bool → Hp → Prop), cond ρ2 μ Pc → (∀ c μ3 R3 H3, Nx T μ R H μ3 R3 H3 → Pc c μ3 → Qc c H3) → tt σ2 H Qc) →
        (∀ μ3 R3 H3, Nx T μ R H μ3 R3 H3 → ∀ (Pe : Po) (Qe : VK), elt ρ2 μ3 Pe → To T μ3 R3 H3 Pe Qe → te σ2 H3 Qe) → Qg σ2 H) → g v (wipe σ vs) H Qg)
    (hlen : xs.length ≤ sizeLine) (w : lcD bind cond elt xs [] μ1 W) (t : To T μ1 R1 H1 (fun d μ => ∃ ys, d = .lst ys ∧ W ys μ) Q) :
    ∃ W : Nat → Nat → Hp → Prop, (∃ m, W 0 m (upd H1 A (.lst []))) ∧ ∀ i m H, W i m H →
      (J.stop i H ∧ Q (.ref A) H) ∨ (J.go i H ∧ ∃ Nx : Hp → Prop, (∀ H', Nx H' → ∃ m', m' < m ∧ W (i + 1) m' H') ∧ ∀ x H', J.yld i H x H' → g x (wipe σ vs) H' fun σ2 H2 => wipe σ2 vs = wipe σ vs ∧ tt σ2 H2 fun b H3 =>
        if b = true then te σ2 H3 fun y H4 => ∃ acc, H4 A = some (.lst acc) ∧ acc.length < sizeLine ∧ Nx (upd H4 A (.lst (acc ++ [y]))) else Nx H3) := by
  obtain ⟨G, Y, wk, hG, hY⟩ := it.ex
  have hAB : A ≠ T.B := fun e => bag_some b1 (by rw [← e]; exact hA)
  have rA : R1 A = none := fr_none s1 hA
  have mA : μ1 A = none := Nx.mu_some o1 hA
  refine lc_it wk (fun i H => ∃ μ R acc vacc, Nx T μ1 R1 H1 μ R H ∧ R A = none ∧ μ A = none ∧ H A = some (.lst vacc) ∧ RdAll T R vacc acc ∧ acc.length ≤ i ∧ lcD bind cond elt (xs.drop i) acc μ W)
    ⟨μ1, R1, [], [], Nx.extra s1 b1 o1 hA _, rA, mA, upd_same, .nil, Nat.le_refl _, w⟩ (fun i H _ ⟨μ, R, acc, vacc, n, _⟩ => hG R H n.r n.s) ?_ ?_
  · rintro i x H H' hi ⟨μ, R, acc, vacc, n, hRA, hMA, hHA, ra, hal, w⟩ y
    obtain ⟨d, R', hd, n', rd⟩ := hY i μ R H x H' n.r n.s n.b n.o y
    have e : xs.drop i = d :: xs.drop (i + 1) := by
      have hlt := (List.getElem?_eq_some_iff.mp hd).1
      rw [List.drop_eq_getElem_cons hlt]
      congr 1
      exact (List.getElem?_eq_some_iff.mp hd).2
    rw [e] at w
    refine turn x d μ R' H' _ _ (n.trans n') rd w fun σ2 ρ2 hP hw hc he => ⟨hw, ?_⟩
    refine hc _ _ hP fun c μ3 R3 H3 n3 hcc => ?_
    have keep : ∀ μ4 R4 H4, Nx T μ R H μ4 R4 H4 → R4 A = none ∧ μ4 A = none ∧ H4 A = some (.lst vacc) ∧ RdAll T R4 vacc acc := fun μ4 R4 H4 n4 => by
      obtain ⟨z1, z2⟩ := n4.n A (by rw [hHA]; exact fun z => nomatch z) hMA
      exact ⟨by rw [z1]; exact hRA, z2, n4.h A _ hHA hAB hMA, ra.mono n4.r⟩
    cases c with
    | false =>
      refine iteF ?_
      have n4 := n'.trans n3
      obtain ⟨k1, k2, k3, k4⟩ := keep μ3 R3 H3 n4
      exact ⟨μ3, R3, acc, vacc, n.trans n4, k1, k2, k3, k4, by omega, hcc⟩
    | true =>
      refine iteT ?_
      refine he μ3 R3 H3 n3 _ _ hcc fun v y μ4 R4 H4 n4 ry hw4 => ?_
      have n5 := n'.trans (n3.trans n4)
      obtain ⟨k1, k2, k3, k4⟩ := keep μ4 R4 H4 n5
      refine ⟨vacc, k3, by rw [k4.length]; omega, μ4, R4, acc ++ [y], vacc ++ [v], Nx.hold (n.trans n5) hA k1 k2 hAB, k1, k2, upd_same, k4.append (.cons ry .nil), by simp; omega, hw4⟩
  · rintro H ⟨μ, R, acc, vacc, n, hRA, hMA, hHA, ra, _, w⟩
    rw [List.drop_length] at w
    have n2 := Nx.fix n hA hRA hMA hAB hHA
    exact t _ _ _ _ _ n2 (.lst upd_same (ra.mono fun b o h => by rw [upd_ne (ne_of_none h hRA)]; exact h)) ⟨acc, rfl, w⟩
theorem chkI_fold {sc : Scope} {ci : CI} {e : Expr} {tup : Bool} (h : chkI P N sc ci e tup = true) (env : Env) (x : Value) : foldedSetIterable e env x = pure x := by
  cases ci with
  | seq a =>
    simp only [chkI, Bool.and_eq_true, Bool.not_eq_true'] at h
    have h2 := h.2
    cases e <;> first | rfl | (simp [isSet] at h2)
  | rng1 a => cases e <;> first | rfl | exact absurd h Bool.false_ne_true
  | rng2 a b => cases e <;> first | rfl | exact absurd h Bool.false_ne_true
  | zip a b => cases e <;> first | rfl | exact absurd h Bool.false_ne_true
  | enum a => cases e <;> first | rfl | exact absurd h Bool.false_ne_true
/-- the parts of a comprehension that the text holds -/
theorem lc_parts {tg : Tg} {it : CI} {cond : CO} {elt : CE} {own : List (Str × Nat)} {sc : Scope} {e : Expr} (hc : chkE P N sc (.lc tg it cond elt own) e = true) :
    ∃ (f t i : Expr) (ifs : List Expr) (scope : Scope) (pos : Pos), e = .ListComp f [⟨t, i, ifs, 0⟩] scope pos ∧ chkTg N scope tg t = true ∧ chkI P N sc it i (isTup t) = true ∧ ((cond = .none ∧ ifs = []) ∨ ∃ c x, cond = .some c ∧ ifs = [x] ∧ chkE P N (relS scope sc) c x = true) ∧
      chkE P N (relS scope sc) elt f = true ∧ blkC N sc scope own = true ∧ tgIn tg (own.map (·.2)) = true := by
  cases e <;> first | exact absurd hc Bool.false_ne_true | skip
  rename_i f gens scope pos
  rcases gens with _ | ⟨⟨t, i, ifs, n⟩, _ | ⟨_, _⟩⟩ <;> first | exact absurd hc Bool.false_ne_true | skip
  simp only [chkE, Bool.and_eq_true, decide_eq_true_eq] at hc
  obtain ⟨⟨⟨⟨⟨⟨rfl, h1⟩, h2⟩, h3⟩, h4⟩, h5⟩, h6⟩ := hc
  refine ⟨f, t, i, ifs, scope, pos, rfl, h1, h2, ?_, h4, h5, h6⟩
  cases cond with
  | none =>
    cases ifs with
    | nil => exact .inl ⟨rfl, rfl⟩
    | cons _ _ => exact absurd h3 Bool.false_ne_true
  | some c =>
    rcases ifs with _ | ⟨x, _ | ⟨_, _⟩⟩ <;> first | exact absurd h3 Bool.false_ne_true | skip
    exact .inr ⟨c, x, rfl, rfl, h3⟩
abbrev bg (X : Cx) (scope : Scope) (t : Expr) : TG := fun v σ H Q => ∀ s H' C cl fp, wpg (X.blk s H' scope (compEnvC scope cl C X.env) fp) t v σ H Q
abbrev be (X : Cx) (scope : Scope) (e : Expr) : TE := fun σ H Q => ∀ s H' C cl fp, wpt (X.blk s H' scope (compEnvC scope cl C X.env) fp) e σ H Q
abbrev wpts (X : Cx) (ifs : List Expr) : TT := fun σ H Q => ∀ pins s, Inv X pins σ H s → wpAny (model X.prog X.w) X.A (forIn ifs true fun c r => if r = true then do let ok ← isTrue c X.env (eval c X.env); pure (ForInStep.yield ok) else pure (ForInStep.yield r)) (TP X pins σ Q) X.xe s
abbrev bt (X : Cx) (scope : Scope) (ifs : List Expr) : TT := fun σ H Q => ∀ s H' C cl fp, wpts (X.blk s H' scope (compEnvC scope cl C X.env) fp) ifs σ H Q
theorem of_pts {X : Cx} {ifs : List Expr} {t : TT} (h : PTs X ifs t) {σ : L2.St} {H : Hp} {Q : Bool → Hp → Prop} (q : t σ H Q) : wpts X ifs σ H Q := fun pins s I => h.run pins s σ H Q I q
/-- what a comprehension asks, shown -/
theorem lc_read {tg : Tg} {it : CI} {cond : CO} {elt : CE} {own : List (Str × Nat)} (hI : SI P hi Γ k N it) (hcd : ∀ c, cond = .some c → ST P hi Γ.noex k N c) (he : SE P hi Γ.noex k N elt)
    {sc st : Scope} {f t i : Expr} {ifs : List Expr} {scope : Scope} (h1 : chkTg N scope tg t = true) (h2 : chkI P N sc it i (isTup t) = true)
    (h3 : (cond = .none ∧ ifs = []) ∨ ∃ c x, cond = .some c ∧ ifs = [x] ∧ chkE P N (relS scope sc) c x = true) (h4 : chkE P N (relS scope sc) elt f = true) (h5 : blkC N sc scope own = true) (h6 : tgIn tg (own.map (·.2)) = true)
    {X : Cx} {B : Addr} {μ0 μ : Mu} {R0 H0 R H : Hp} (S : StX P hi Γ k N sc st X B μ0 R0 H0) {σ : L2.St} {ρ : List Sl} {W : Po} {Q : VK} (o : Ok (P.tb hi X.K B) μ0 R0 H0 μ R H σ ρ) (w : wE Γ (.lc tg it cond elt own) ρ μ W) (tq : To (P.tb hi X.K B) μ R H W Q) :
    tLc (wpi X t i) (bg X scope t) (bt X scope ifs) (be X scope f) (own.map (·.2)) σ H Q := by
  have hk : scope.kind = .function := (blkOk_by h5).kind
  simp only [wE] at w
  refine hI sc st i t h2 X B μ0 R0 H0 S μ R H σ ρ _ _ o w fun J xs μ1 R1 H1 n1 it1 len1 w1 => ?_
  intro A hA
  have o1 := o.nx n1
  refine lc_ok it1 n1.s n1.b n1.o hA ?_ (len1 w1.1) w1.2 ?_
  · intro v d μ2 R2 H2 Pk Qg n2 rd hb hq s H' C cl fp
    have SB := S.blk hk s H' C cl fp
    have o2 := ((o1.nx n2).wipe (own.map (·.2)))
    refine tg_ok SB h1 (o2 : Ok (P.tb hi (X.blk s H' scope (compEnvC scope cl C X.env) fp).K B) _ _ _ _ _ _ _ _) rd hb fun σ2 ρ2 o3 e3 hP => ?_
    refine hq σ2 ρ2 hP (tg_wipe h6 e3) ?_ ?_
    · intro Pc Qc hc hcq s' H'' C' cl' fp'
      have SB' := S.blk hk s' H'' C' cl' fp'
      rcases h3 with ⟨rfl, rfl⟩ | ⟨c, x, rfl, rfl, hx⟩
      · simp only [wC] at hc
        exact of_pts pts_nil (hcq _ _ _ _ (Nx.refl n2.s n2.b n2.o) hc)
      · simp only [wC] at hc
        refine of_pts (pts_one (pt_wpt x)) ?_
        exact hcd c rfl _ _ x hx _ B μ0 R0 H0 SB' μ2 R2 H2 σ2 ρ2 (fun d μ => truD (vw μ d) fun b => Pc b μ) Qc o3 hc fun d μ' R' H' n hd => truD_imp hd fun c hc => hcq c μ' R' H' n hc
    · intro μ3 R3 H3 n3 Pe Qe hpe te s' H'' C' cl' fp'
      have SB' := S.blk hk s' H'' C' cl' fp'
      exact he _ _ f h4 _ B μ0 R0 H0 SB' μ3 R3 H3 σ2 ρ2 Pe Qe (o3.nx n3) hpe te
  · intro v d μ' R' H' n r hw
    obtain ⟨ys, rfl, hw⟩ := hw
    exact tq _ _ _ _ _ (n1.trans n) r hw
theorem se_lc {tg : Tg} {it : CI} {cond : CO} {elt : CE} {own : List (Str × Nat)} (hI : SI P hi Γ k N it) (hcd : ∀ c, cond = .some c → ST P hi Γ.noex k N c) (he : SE P hi Γ.noex k N elt) : SE P hi Γ k N (.lc tg it cond elt own) := by
  intro sc st e hc X B μ0 R0 H0 S μ R H σ ρ W Q o w t
  obtain ⟨f, tx, i, ifs, scope, pos, rfl, h1, h2, h3, h4, h5, h6⟩ := lc_parts hc
  have ok : BlkOk X.N X.env.scope scope own := by rw [S.hN, S.hs]; exact blkOk_by h5
  refine of_pe (pe_lc S.calm (by rw [S.hN]; exact S.nd) (pi_wpt tx i) ok (fun s H C cl fp => ⟨fun pins s' σ H v u Q I r h => h s _ C cl fp pins s' u I r⟩) (fun s H C cl fp => ⟨fun pins s' σ H Q I h => h s _ C cl fp pins s' I⟩) (fun s H C cl fp => ⟨fun pins s' σ H Q I h => h s _ C cl fp pins s' I⟩) (chkI_fold h2 X.env)) (lc_read hI hcd he h1 h2 h3 h4 h5 h6 S o w t)
end
end MP
set_option maxHeartbeats 4000000
/-! MP: methods of built-in classes; f-strings; all expressions. -/
namespace MP
open PySem PySem.Spec PyProof.Rows L2
section
variable {P : Prog} {hi : PInj P} {Γ : Sg} {k : Nat} {N : List Str}
/-- the shape of a call of a built-in class's method -/
theorem bm_few {l : List Expr} (hn : noStar l = true) (hl : l.length < 28) (p : Pos) (env : Env) : ((backTo p (starEach l env)).all (fun x => !x.1) && (backToKw p (keywordEach [] env)).all (fun x => x.1.isSome)
      && decide (l.length + ([] : List Keyword).length + (if ([] : List Keyword).isEmpty then 0 else 1) < 30)) = true := by
  have h1 : (backTo p (starEach l env)).all (!·.1) = true := by
    have := back_star (pos := p) (env := env) hn
    rw [List.all_eq_not_any_not]
    simpa using this
  rw [h1]
  show (true && true && decide (l.length + 0 + 0 < 30)) = true
  simp; omega
theorem se_bmeth {m : Bm} {a : CE} {as : CEs} (ha : SE P hi Γ k N a) (hs : SEs P hi Γ k N as) : SE P hi Γ k N (.bmeth m a as) := by
  intro sc st e hc X B μ0 R0 H0 S μ R H σ ρ W Q o w t
  cases e <;> first | exact absurd hc Bool.false_ne_true | skip
  rename_i fe es kws pos
  cases fe <;> first | exact absurd hc Bool.false_ne_true | skip
  rename_i oe x ap
  cases kws with
  | cons _ _ => exact absurd hc Bool.false_ne_true
  | nil =>
  simp only [chkE, Bool.and_eq_true, decide_eq_true_eq] at hc
  obtain ⟨⟨⟨⟨⟨hmc, hl1⟩, rfl⟩, hp⟩, hca⟩, hcs⟩ := hc
  simp only [mcB, Bool.and_eq_true, decide_eq_true_eq] at hmc
  obtain ⟨⟨hb, hline⟩, hlt⟩ := hmc
  obtain ⟨hns, hlen⟩ := chk_star hcs hp
  simp only [wE] at w
  cases es with
  | nil => rw [hlen] at hl1; simp at hl1
  | cons e es =>
  obtain ⟨hn1, hn2⟩ := noStar_cons hns
  have few := bm_few hns hlt pos X.env
  have bs := back_star (pos := pos) (env := X.env) hn2
  have run : ∀ (r : V → List V → Hp → VK → Prop), (∀ b vs ds μ1 R1 H1, Nx (P.tb hi X.K B) μ R H μ1 R1 H1 → RwAll (P.tb hi X.K B) R1 H1 vs ds → bmD m (.str b) ds (fun d => W d μ1) → r (.str b) vs H1 Q) →
      tBM X.K "str" r (wpt X oe) (wpa X (e :: es)) σ H Q := fun r hr => by
    refine ha sc st oe hca X B μ0 R0 H0 S μ R H σ ρ _ _ o w fun v d μ1 R1 H1 n1 r1 w1 => ?_
    obtain ⟨hd, w1⟩ := w1
    cases r1 <;> first | exact hd.elim | skip
    refine ⟨rfl, hs sc st (e :: es) hcs X B μ0 R0 H0 S μ1 R1 H1 σ ρ _ _ (o.nx n1) w1 fun vs ds μ2 R2 H2 n2 r2 l2 l3 w2 => ?_⟩
    exact hr _ _ _ μ2 R2 H2 (n1.trans n2) (r2.rw n2.s n2.o) w2
  cases m with
  | join =>
    refine of_pe (pe_bm F.plainAttrs_str F.slot_str_join F.type_str_join mt_join (pe_wpt oe) (pa_wpt (e :: es)) (base_ok hb _ _ _) few hline (star_cons hn1 es X.env) bs) ?_
    refine run _ fun b vs ds μ1 R1 H1 n1 r1 w1 => ?_
    rcases r1 with _ | ⟨r1, _ | ⟨_, _⟩⟩
    · exact w1.elim
    · cases r1 <;> first | exact w1.elim | skip
      rename_i a' xs' ds' q r
      have w5 : (match strsD ds' with | some ys => (ys.map (·.length)).sum + ys.length * b.length ≤ 16777216 ∧ W (.str (Txt.join b ys)) μ1 | none => False) := w1
      cases e1 : strsD ds' with
      | none => simp only [e1] at w5
      | some ys =>
        simp only [e1] at w5
        obtain rfl := strs_of e1
        obtain rfl := r.strs
        exact ⟨b, _, ys, rfl, rfl, .inl (SqL.of q), w5.1, t _ _ _ _ _ n1 (.str _) w5.2⟩
    · cases r1 <;> exact w1.elim
  | split =>
    refine of_pe (pe_bm F.plainAttrs_str F.slot_str_split F.type_str_split mt_split (pe_wpt oe) (pa_wpt (e :: es)) (base_ok hb _ _ _) few hline (star_cons hn1 es X.env) bs) ?_
    refine run _ fun b vs ds μ1 R1 H1 n1 r1 w1 => ?_
    rcases r1 with _ | ⟨r1, _ | ⟨_, _⟩⟩
    · exact w1.elim
    · cases r1 <;> first | exact w1.elim | skip
      rename_i b2
      obtain ⟨⟨h1, h2⟩, h3⟩ := (show ((b2.length == 0) = false ∧ b.length + 2 ≤ sizeLine) ∧ W (.lst ((Txt.split b b2).map .str)) μ1 from w1)
      refine ⟨b, b2, rfl, rfl, h1, h2, To.lst (fun v d μ' R' H' n r' hw => t _ _ _ _ _ (n1.trans n) r' hw) n1.s n1.b n1.o (RdAll.of_strs _) h3⟩
    · cases r1 <;> exact w1.elim
theorem se_smeth {m : Bs} {a : CE} {as : CEs} (ha : SE P hi Γ k N a) (hs : SEs P hi Γ k N as) : SE P hi Γ k N (.smeth m a as) := by
  intro sc st e hc X B μ0 R0 H0 S μ R H σ ρ W Q o w t
  cases e <;> first | exact absurd hc Bool.false_ne_true | skip
  rename_i fe es kws pos
  cases fe <;> first | exact absurd hc Bool.false_ne_true | skip
  rename_i oe x ap
  cases kws with
  | cons _ _ => exact absurd hc Bool.false_ne_true
  | nil =>
  simp only [chkE, Bool.and_eq_true, decide_eq_true_eq] at hc
  obtain ⟨⟨⟨⟨⟨hmc, hl1⟩, rfl⟩, hp⟩, hca⟩, hcs⟩ := hc
  simp only [mcB, Bool.and_eq_true, decide_eq_true_eq] at hmc
  obtain ⟨⟨hb, hline⟩, hlt⟩ := hmc
  obtain ⟨hns, hlen⟩ := chk_star hcs hp
  simp only [wE] at w
  cases es with
  | nil => rw [hlen] at hl1; simp at hl1
  | cons e es =>
  obtain ⟨hn1, hn2⟩ := noStar_cons hns
  have few := bm_few hns hlt pos X.env
  have bs := back_star (pos := pos) (env := X.env) hn2
  have run : ∀ (r : V → List V → Hp → VK → Prop), (∀ l xs ys vs ds μ1 R1 H1, Nx (P.tb hi X.K B) μ R H μ1 R1 H1 → μ1 l = some (.lst ys) → H1 l = some (.lst xs) → RdAll (P.tb hi X.K B) R1 xs ys → RdAll (P.tb hi X.K B) R1 vs ds → bsD m l ys ds μ1 W → r (.ref l) vs H1 Q) →
      tBM X.K "list" r (wpt X oe) (wpa X (e :: es)) σ H Q := fun r hr => by
    refine ha sc st oe hca X B μ0 R0 H0 S μ R H σ ρ _ _ o w fun v d μ1 R1 H1 n1 r1 w1 => ?_
    cases r1 <;> first | exact w1.elim | skip
    rename_i l
    obtain ⟨hd, w1⟩ := w1
    have h0 : ∃ xs, SqL X.K H1 l xs := by
      cases e1 : μ1 l with
      | none => rw [e1] at hd; exact hd.elim
      | some d =>
        rw [e1] at hd
        cases d <;> first | exact hd.elim | skip
        obtain ⟨vs, h2, h3⟩ := (n1.o l _ e1).2.2
        exact ⟨vs, SqL.of h2⟩
    refine ⟨.inl ⟨rfl, h0⟩, hs sc st (e :: es) hcs X B μ0 R0 H0 S μ1 R1 H1 σ ρ _ _ (o.nx n1) w1 fun vs ds μ2 R2 H2 n2 r2 l2 l3 w2 => ?_⟩
    cases e2 : μ2 l with
    | none => simp only [e2] at w2
    | some d =>
      cases d <;> simp only [e2] at w2
      obtain ⟨vs', h2, h3⟩ := (n2.o l _ e2).2.2
      exact hr l vs' _ vs ds μ2 R2 H2 (n1.trans n2) e2 h2 h3 r2 w2
  have wr : ∀ {l : Addr} {ys : List D} {μ1 : Mu} {R1 H1 : Hp} {xs' : List V} {ys' : List D}, Nx (P.tb hi X.K B) μ R H μ1 R1 H1 → μ1 l = some (.lst ys) → RdAll (P.tb hi X.K B) R1 xs' ys' → Nx (P.tb hi X.K B) μ R H (μ1.set l (.lst ys')) R1 (upd H1 l (.lst xs')) := fun {l ys μ1 R1 H1 xs' ys'} n e r =>
    n.trans (Nx.put n.s n.b n.o (.inr (by rw [e]; exact fun z => nomatch z)) ⟨xs', upd_same, r⟩)
  cases m with
  | append =>
    refine of_pe (pe_bm F.plainAttrs_list F.slot_list_append F.type_list_append mt_append (pe_wpt oe) (pa_wpt (e :: es)) (base_ok hb _ _ _) few hline (star_cons hn1 es X.env) bs) ?_
    refine run _ fun l xs ys vs ds μ1 R1 H1 n1 e1 h1 r0 r1 w1 => ?_
    rcases r1 with _ | ⟨r1, _ | ⟨_, _⟩⟩ <;> first | exact w1.elim | skip
    exact ⟨l, xs, _, rfl, rfl, h1, by rw [r0.length]; exact w1.1, t _ _ _ _ _ (wr n1 e1 (r0.append (.cons r1 .nil))) .non w1.2⟩
  | pop =>
    refine of_pe (pe_bm F.plainAttrs_list F.slot_list_pop F.type_list_pop mt_popAt (pe_wpt oe) (pa_wpt (e :: es)) (base_ok hb _ _ _) few hline (star_cons hn1 es X.env) bs) ?_
    refine run _ fun l xs ys vs ds μ1 R1 H1 n1 e1 h1 r0 r1 w1 => ?_
    rcases r1 with _ | ⟨r1, _ | ⟨_, _⟩⟩
    · exact w1.elim
    · cases r1 <;> first | exact w1.elim | skip
      rename_i i
      obtain ⟨⟨hi1, hi2⟩, w1⟩ := (show ((-(2 ^ 63) ≤ i ∧ i < 2 ^ 63) ∧ match ixN ys.length i with | some j => (match ys[j]? with | some d => W d (μ1.set l (.lst (ys.eraseIdx j))) | none => False) | none => False) from w1)
      cases e2 : ixN ys.length i with
      | none => rw [e2] at w1; exact w1.elim
      | some j =>
        rw [e2] at w1
        cases e3 : ys[j]? with
        | none => simp only [e3] at w1
        | some d =>
          simp only [e3] at w1
          obtain ⟨y, h2, h3⟩ := r0.get' e3
          exact ⟨l, xs, i, j, y, rfl, rfl, h1, hi1, hi2, by rw [r0.length]; exact (ixN_seq e2).1, h2, t _ _ _ _ _ (wr n1 e1 (r0.eraseIdx j)) h3 w1⟩
    · cases r1 <;> exact w1.elim
/-! ### f-strings -/
abbrev SF (P : Prog) (hi : PInj P) (Γ : Sg) (k : Nat) (N : List Str) (as : CEs) : Prop := ∀ (sc st : Scope) (es : List Expr), chkF P N sc as es = true → ∀ (X : Cx) (B : Addr) (μ0 : Mu) (R0 H0 : Hp), StX P hi Γ k N sc st X B μ0 R0 H0 → ∃ ts, PJ X es ts ∧ ∀ (μ : Mu) (R H : Hp) (σ : L2.St) (ρ : List Sl) (acc : Str) (W : Str → Mu → Prop) (Q : Str → Hp → Prop),
  Ok (P.tb hi X.K B) μ0 R0 H0 μ R H σ ρ → wF Γ as ρ μ acc W → (∀ x μ' R' H', Nx (P.tb hi X.K B) μ R H μ' R' H' → W x μ' → Q x H') → tJs ts acc σ H Q
theorem sf_nil : SF P hi Γ k N .nil := by
  intro sc st es hc X B μ0 R0 H0 S
  cases es with
  | cons _ _ => exact absurd hc Bool.false_ne_true
  | nil => exact ⟨[], .nil, fun μ R H σ ρ acc W Q o w t => t _ _ _ _ (Nx.refl o.sub o.bag o.sto) w⟩
theorem sf_str {x : Str} {as : CEs} (hs : SF P hi Γ k N as) {sc st : Scope} {y : Str} {kk : Nat} {pos : Pos} {es : List Expr} (hc : (decide (x = y) && chkF P N sc as es) = true) {X : Cx} {B : Addr} {μ0 : Mu} {R0 H0 : Hp} (S : StX P hi Γ k N sc st X B μ0 R0 H0) :
    ∃ ts, PJ X (.Constant (.str y) kk pos :: es) ts ∧ ∀ (μ : Mu) (R H : Hp) (σ : L2.St) (ρ : List Sl) (acc : Str) (W : Str → Mu → Prop) (Q : Str → Hp → Prop),
  Ok (P.tb hi X.K B) μ0 R0 H0 μ R H σ ρ → wF Γ (.cons (.str x) as) ρ μ acc W → (∀ x μ' R' H', Nx (P.tb hi X.K B) μ R H μ' R' H' → W x μ' → Q x H') → tJs ts acc σ H Q := by
  simp only [Bool.and_eq_true, decide_eq_true_eq] at hc
  obtain ⟨rfl, hc⟩ := hc
  obtain ⟨ts, hts, run⟩ := hs sc st es hc X B μ0 R0 H0 S
  refine ⟨_ :: ts, .cons pe_str hts, fun μ R H σ ρ acc W Q o w t => ?_⟩
  simp only [wF, wE] at w
  exact ⟨x, rfl, w.1.2, run μ R H σ ρ _ W Q o w.2 t⟩
theorem sf_cons {a : CE} {as : CEs} (ha : SE P hi Γ k N a) (hs : SF P hi Γ k N as) : SF P hi Γ k N (.cons a as) := by
  intro sc st es hc X B μ0 R0 H0 S
  cases es with
  | nil => cases a <;> exact absurd hc Bool.false_ne_true
  | cons e es =>
    cases e
    case Constant c kk pos =>
      cases a <;> first | exact absurd hc Bool.false_ne_true | skip
      cases c <;> first | exact absurd hc Bool.false_ne_true | skip
      exact sf_str hs hc S
    case FormattedValue e c sp pos =>
      cases sp with
      | some _ => cases a <;> exact absurd hc Bool.false_ne_true
      | none =>
        have hc' : (decide (c = -1) && chkE P N sc a e && chkF P N sc as es) = true := by cases a <;> exact hc
        simp only [Bool.and_eq_true, decide_eq_true_eq] at hc'
        obtain ⟨⟨rfl, h1⟩, h2⟩ := hc'
        obtain ⟨ts, hts, run⟩ := hs sc st es h2 X B μ0 R0 H0 S
        refine ⟨_ :: ts, .cons (pe_fmt (pe_wpt e)) hts, fun μ R H σ ρ acc W Q o w t => ?_⟩
        simp only [wF] at w
        refine ha sc st e h1 X B μ0 R0 H0 S μ R H σ ρ _ _ o w fun v d μ1 R1 H1 n1 r1 w1 => ?_
        cases r1 <;> first | exact w1.elim | skip
        · rename_i i
          exact .inr ⟨i, rfl, w1.1.1, toString i, rfl, w1.1.2, run μ1 R1 H1 σ ρ _ W Q (o.nx n1) w1.2 fun x μ' R' H' n h => t x μ' R' H' (n1.trans n) h⟩
        · rename_i z
          exact .inl ⟨z, rfl, w1.1.1, z, rfl, w1.1.2, run μ1 R1 H1 σ ρ _ W Q (o.nx n1) w1.2 fun x μ' R' H' n h => t x μ' R' H' (n1.trans n) h⟩
    all_goals (cases a <;> exact absurd hc Bool.false_ne_true)
theorem sf_star {a : CE} {as : CEs} : SF P hi Γ k N (.star a as) := by
  intro sc st es hc
  cases es <;> exact absurd hc Bool.false_ne_true
theorem se_fst {as : CEs} (hs : SF P hi Γ k N as) : SE P hi Γ k N (.fst as) := by
  intro sc st e hc X B μ0 R0 H0 S μ R H σ ρ W Q o w t
  cases e <;> first | exact absurd hc Bool.false_ne_true | skip
  rename_i es pos
  simp only [chkE, Bool.and_eq_true, decide_eq_true_eq] at hc
  obtain ⟨ts, hts, run⟩ := hs sc st es hc.2 X B μ0 R0 H0 S
  have h2 : ∃ v1 v2 rest, es = v1 :: v2 :: rest := by
    have h1 := hc.1
    rcases es with _ | ⟨a1, _ | ⟨a2, rest⟩⟩
    · simp at h1
    · simp at h1
    · exact ⟨_, _, _, rfl⟩
  obtain ⟨v1, v2, rest, rfl⟩ := h2
  refine of_pe (pe_joined hts) ?_
  simp only [wE] at w
  exact run μ R H σ ρ _ _ _ o w fun x μ' R' H' n h => t _ _ _ _ _ n (.str x) h
end
end MP
set_option maxHeartbeats 4000000
/-! MP: every expression's term means what the text does. -/
namespace MP
open PySem PySem.Spec PyProof.Rows L2
section
variable {P : Prog} {hi : PInj P} {k : Nat} {N : List Str}
theorem se_no {Γ : Sg} {ce : CE} (h : ∀ sc e, chkE P N sc ce e = false) : SE P hi Γ k N ce ∧ ST P hi Γ k N ce := by
  refine ⟨?_, ?_⟩ <;> intro sc st e hc <;> rw [h] at hc <;> cases hc
theorem st_frz {Γ : Sg} {a : CE} (ha : ST P hi Γ k N a) : ST P hi Γ k N (.frz a) := by
  intro sc st e hc X B μ0 R0 H0 S μ R H σ ρ W Q o w t
  have hc' := (frz_chk hc).2
  refine ha sc st e hc' X B μ0 R0 H0 S μ R H σ ρ _ _ o w fun d μ1 R1 H1 n1 w1 => ?_
  cases d <;> first | exact t _ _ _ _ n1 w1 | skip
  rename_i a'
  cases e1 : μ1 a' with
  | none => simp only [e1] at w1
  | some d2 =>
    simp only [e1] at w1
    rw [vw_loc, e1]
    obtain ⟨h1, h2, h3⟩ := n1.o a' d2 e1
    have fz : ∀ {u : HO}, H1 a' = some u → Nx (P.tb hi X.K B) μ R H (μ1.del a') (upd R1 a' u) H1 := fun h4 => n1.trans (Nx.freeze n1.s n1.b n1.o (by rw [e1]; exact fun z => nomatch z) h4)
    cases d2 <;> first | exact h3.elim | skip
    · obtain ⟨vs, h4, h5⟩ := h3
      exact t _ _ _ _ (fz h4) w1
    · obtain ⟨vs, h4, h5⟩ := h3
      exact t _ _ _ _ (fz h4) w1
    · obtain ⟨dx, vs, h4, h5⟩ := h3
      exact t _ _ _ _ (fz h4) w1
mutual
theorem sE (Γ : Sg) : ∀ ce : CE, SE P hi Γ k N ce ∧ ST P hi Γ k N ce
  | .var i => ⟨se_var i, st_gen (se_var i) fun sc e h env whole => by cases e <;> first | rfl | exact absurd h Bool.false_ne_true⟩
  | .int n => ⟨se_int n, st_gen (se_int n) fun sc e h env whole => by cases e <;> first | rfl | exact absurd h Bool.false_ne_true⟩
  | .str x => ⟨se_str x, st_gen (se_str x) fun sc e h env whole => by cases e <;> first | rfl | exact absurd h Bool.false_ne_true⟩
  | .bl x => ⟨se_bl x, st_gen (se_bl x) fun sc e h env whole => by cases e <;> first | rfl | exact absurd h Bool.false_ne_true⟩
  | .non => ⟨se_non, st_gen se_non fun sc e h env whole => by cases e <;> first | rfl | exact absurd h Bool.false_ne_true⟩
  | .gc x d => ⟨se_gc x d, st_gen (se_gc x d) fun sc e h env whole => by cases e <;> first | rfl | exact absurd h Bool.false_ne_true⟩
  | .bin op a b =>
    have h := se_bin (op := op) (sE Γ a).1 (sE Γ b).1
    ⟨h, st_gen h fun sc e h env whole => by cases e <;> first | rfl | exact absurd h Bool.false_ne_true⟩
  | .neg a =>
    have h := se_neg (sE Γ a).1
    ⟨h, st_gen h fun sc e h env whole => by
      cases e <;> first | rfl | exact absurd h Bool.false_ne_true | skip
      rename_i op _ _
      cases op <;> first | rfl | exact absurd h Bool.false_ne_true⟩
  | .cmp op a b => ⟨se_cmp (sE Γ a).1 (sE Γ b).1, st_cmp (sE Γ a).1 (sE Γ b).1⟩
  | .chain p q a b c => ⟨se_chain (sE Γ a).1 (sE Γ b).1 (sE Γ c).1, st_chain (sE Γ a).1 (sE Γ b).1 (sE Γ c).1⟩
  | .not a => ⟨se_not (sE Γ a).1, st_not (sE Γ a).2⟩
  | .bop kd a b => ⟨se_bop (sE Γ a).1 (sE Γ b).1, st_bop (sE Γ a).2 (sE Γ b).2⟩
  | .ife c a b => ⟨se_ife (sE Γ c).2 (sE Γ a).1 (sE Γ b).1, st_ife (sE Γ c).2 (sE Γ a).2 (sE Γ b).2⟩
  | .tup es =>
    have h := se_tup (sEs Γ es)
    ⟨h, st_gen h fun sc e h env whole => by cases e <;> first | rfl | exact absurd h Bool.false_ne_true⟩
  | .lst own es =>
    have h := se_lst (own := own) (sEs Γ es)
    ⟨h, st_gen h fun sc e h env whole => by cases e <;> first | rfl | exact absurd h Bool.false_ne_true⟩
  | .dct1 a b =>
    have h := se_dct1 (sE Γ a).1 (sE Γ b).1
    ⟨h, st_gen h fun sc e h env whole => by cases e <;> first | rfl | exact absurd h Bool.false_ne_true⟩
  | .call f es ks kes pl =>
    have h := se_call (f := f) (ks := ks) (pl := pl) (sEs Γ es) (sE1 Γ es) (sKs Γ kes)
    ⟨h, st_gen h fun sc e h env whole => by cases e <;> first | rfl | exact absurd h Bool.false_ne_true⟩
  | .mk c f es ks kes pl =>
    have h := se_mk (c := c) (f := f) (ks := ks) (pl := pl) (sEs Γ es) (sE1 Γ es) (sKs Γ kes)
    ⟨h, st_gen h fun sc e h env whole => by cases e <;> first | rfl | exact absurd h Bool.false_ne_true⟩
  | .meth c m f e es ks kes pl =>
    have h := se_meth (c := c) (m := m) (f := f) (ks := ks) (pl := pl) (sE Γ e).1 (sEs Γ es) (sKs Γ kes)
    ⟨h, st_gen h fun sc e h env whole => by cases e <;> first | rfl | exact absurd h Bool.false_ne_true⟩
  | .attr e f =>
    have h := se_attr (f := f) (sE Γ e).1
    ⟨h, st_gen h fun sc e h env whole => by cases e <;> first | rfl | exact absurd h Bool.false_ne_true⟩
  | .bcall b es =>
    have h := se_bcall (b := b) (sEs Γ es)
    ⟨h, st_gen h fun sc e h env whole => by cases e <;> first | rfl | exact absurd h Bool.false_ne_true⟩
  | .blist e =>
    have h := se_blist (sE Γ e).1
    ⟨h, st_gen h fun sc e h env whole => by cases e <;> first | rfl | exact absurd h Bool.false_ne_true⟩
  | .bmeth m e es =>
    have h := se_bmeth (m := m) (sE Γ e).1 (sEs Γ es)
    ⟨h, st_gen h fun sc e h env whole => by cases e <;> first | rfl | exact absurd h Bool.false_ne_true⟩
  | .smeth m e es =>
    have h := se_smeth (m := m) (sE Γ e).1 (sEs Γ es)
    ⟨h, st_gen h fun sc e h env whole => by cases e <;> first | rfl | exact absurd h Bool.false_ne_true⟩
  | .isi a t =>
    have h := se_isi (ty := t) (sE Γ a).1
    ⟨h, st_gen h fun sc e h env whole => by cases e <;> first | rfl | exact absurd h Bool.false_ne_true⟩
  | .isis a ts =>
    have h := se_isis (ts := ts) (sE Γ a).1
    ⟨h, st_gen h fun sc e h env whole => by cases e <;> first | rfl | exact absurd h Bool.false_ne_true⟩
  | .isc a c =>
    have h := se_isc (c := c) (sE Γ a).1
    ⟨h, st_gen h fun sc e h env whole => by cases e <;> first | rfl | exact absurd h Bool.false_ne_true⟩
  | .sub a i =>
    have h := se_sub (sE Γ a).1 (sE Γ i).1
    ⟨h, st_gen h fun sc e h env whole => by cases e <;> first | rfl | exact absurd h Bool.false_ne_true⟩
  | .slice a lo hi' =>
    have h := se_slice (sE Γ a).1 (sO Γ lo) (sO Γ hi')
    ⟨h, st_gen h fun sc e h env whole => by cases e <;> first | rfl | exact absurd h Bool.false_ne_true⟩
  | .lc tg it cond elt own =>
    have h := se_lc (tg := tg) (own := own) (sI Γ it) (sC Γ.noex cond) (sE Γ.noex elt).1
    ⟨h, st_gen h fun sc e h env whole => by cases e <;> first | rfl | exact absurd h Bool.false_ne_true⟩
  | .opb op c m f a b =>
    have h := se_opb (op := op) (c := c) (m := m) (f := f) (sE Γ a).1 (sE Γ b).1
    ⟨h, st_gen h fun sc e h env whole => by cases e <;> first | rfl | exact absurd h Bool.false_ne_true⟩
  | .ope ne c m f a b => se_no fun sc e => by cases e <;> rfl
  | .opc c m f a es pl =>
    have h := se_opc (c := c) (m := m) (f := f) (pl := pl) (sE Γ a).1 (sEs Γ es)
    ⟨h, st_gen h fun sc e h env whole => by cases e <;> first | rfl | exact absurd h Bool.false_ne_true⟩
  | .fst es =>
    have h := se_fst (sF Γ es)
    ⟨h, st_gen h fun sc e h env whole => by cases e <;> first | rfl | exact absurd h Bool.false_ne_true⟩
  | .frz e => ⟨se_frz (sE Γ e).1, st_frz (sE Γ e).2⟩
theorem sEs (Γ : Sg) : ∀ es : CEs, SEs P hi Γ k N es
  | .nil => ses_nil
  | .cons e es => ses_cons (sE Γ e).1 (sEs Γ es)
  | .star e es => ses_star (sE Γ e).1 (sEs Γ es)
theorem sE1 (Γ : Sg) : ∀ (es : CEs) (a : CE), es = .star a .nil → SE P hi Γ k N a
  | .nil, _, h => by cases h
  | .cons _ _, _, h => by cases h
  | .star e es, a, h => by cases h; exact (sE Γ e).1
theorem sKs (Γ : Sg) : ∀ es : CEs, SKs P hi Γ k N es
  | .nil => sks_nil
  | .cons e es => sks_cons (sE Γ e).1 (sKs Γ es)
  | .star e es => sks_star
theorem sF (Γ : Sg) : ∀ es : CEs, SF P hi Γ k N es
  | .nil => sf_nil
  | .cons e es => sf_cons (sE Γ e).1 (sF Γ es)
  | .star e es => sf_star
theorem sO (Γ : Sg) : ∀ co : CO, SO' P hi Γ k N co
  | .none => so_none
  | .some e => so_some (sE Γ e).1
theorem sC (Γ : Sg) : ∀ (co : CO) (c : CE), co = .some c → ST P hi Γ k N c
  | .none, _, h => by cases h
  | .some e, c, h => by cases h; exact (sE Γ e).2
theorem sI (Γ : Sg) : ∀ ci : CI, SI P hi Γ k N ci
  | .seq a => si_seq (sE Γ a).1
  | .rng1 a => si_rng1 (sE Γ a).1
  | .rng2 a b => si_rng2 (sE Γ a).1 (sE Γ b).1
  | .zip a b => si_zip (sE Γ a).1 (sE Γ b).1
  | .enum a => si_enum (sE Γ a).1
end
end
end MP
set_option maxHeartbeats 4000000
/-! MP: statements. -/
namespace MP
open PySem PySem.Spec PyProof.Rows L2
/-! ### statements -/
structure EndsOk (T : Tb) (μ0 : Mu) (R0 H0 Rb : Hp) (kt : Kt) (E : Ends) : Prop where
  nx : ∀ σ ρ μ R H, Same Rb R → Ok T μ0 R0 H0 μ R H σ ρ → kt.nx ρ μ → E.nx σ H
  bk : ∀ σ ρ μ R H, Same Rb R → Ok T μ0 R0 H0 μ R H σ ρ → kt.bk ρ μ → E.bk σ H
  ct : ∀ σ ρ μ R H, Same Rb R → Ok T μ0 R0 H0 μ R H σ ρ → kt.ct ρ μ → E.ct σ H
  rt : ∀ v d μ R H, Nx T μ0 R0 H0 μ R H → Rd T R v d → kt.rt d μ → E.rt v H
theorem EndsOk.up {T : Tb} {μ0 : Mu} {R0 H0 Rb Rb' : Hp} {kt : Kt} {E : Ends} (e : EndsOk T μ0 R0 H0 Rb kt E) (s : Same Rb Rb') : EndsOk T μ0 R0 H0 Rb' kt E :=
  ⟨fun σ ρ μ R H q => e.nx σ ρ μ R H (s.trans q), fun σ ρ μ R H q => e.bk σ ρ μ R H (s.trans q), fun σ ρ μ R H q => e.ct σ ρ μ R H (s.trans q), e.rt⟩
section
variable (P : Prog) (hi : PInj P) (Γ : Sg) (k : Nat) (N : List Str)
abbrev SS (s : CS) : Prop := ∀ (sc : Scope) (st : Stmt), chkS P N sc s st = true → ∀ (X : Cx) (B : Addr) (μ0 : Mu) (R0 H0 : Hp), StX P hi Γ k N sc sc X B μ0 R0 H0 → PassesOwn (model X.prog X.w) X.A X.env X.xe → ∀ (μ : Mu) (R H : Hp) (σ : L2.St) (ρ : List Sl) (kt : Kt) (E : Ends),
  Ok (P.tb hi X.K B) μ0 R0 H0 μ R H σ ρ → wS Γ s kt ρ μ → EndsOk (P.tb hi X.K B) μ0 R0 H0 R kt E → wps X st E σ H
abbrev SSs (s : CSs) : Prop := ∀ (sc : Scope) (st : List Stmt), chkSs P N sc s st = true → ∀ (X : Cx) (B : Addr) (μ0 : Mu) (R0 H0 : Hp), StX P hi Γ k N sc sc X B μ0 R0 H0 → PassesOwn (model X.prog X.w) X.A X.env X.xe → ∀ (μ : Mu) (R H : Hp) (σ : L2.St) (ρ : List Sl) (kt : Kt) (E : Ends),
  Ok (P.tb hi X.K B) μ0 R0 H0 μ R H σ ρ → wSs Γ s kt ρ μ → EndsOk (P.tb hi X.K B) μ0 R0 H0 R kt E → wpss X st E σ H
end
section
variable {P : Prog} {hi : PInj P} {Γ : Sg} {k : Nat} {N : List Str}
theorem swaps_no {e : Expr} (h : isComp e = false) (t : Option Expr) (l : Nat) (env : Env) : swapsWith e t l env = pure false := by
  cases e <;> first | rfl | (simp [isComp] at h)
theorem block_fn {env : Env} (hk : env.scope.kind = .function) : env.blockKind = .function := by
  unfold Env.blockKind; rw [hk]; rfl
theorem sw_eq {elt : Expr} {gs : List Comprehension} {scope : Scope} {pos py : Pos} {y : Str} {l : Nat} {env : Env} (hk : env.scope.kind = .function) :
    swapsWith (.ListComp elt gs scope pos) (some (.Name y py)) l env = pure (swB env.scope y py (.ListComp elt gs scope pos)) := by
  have hb := block_fn hk
  unfold swapsWith
  simp only [hb, Expr.pos, swB]
  show pure ((ScopeKind.function == ScopeKind.function) && (env.scope.names.lookup y == some .local) && _ && _) = _
  have e : (env.scope.names.lookup y == some NameKind.local) = (match env.scope.names.lookup y with | some .local => true | _ => false) := by
    cases env.scope.names.lookup y with
    | none => rfl
    | some kd => cases kd <;> rfl
  rw [e]
  rfl
theorem set_end {T : Tb} {μ0 μ : Mu} {R0 H0 R H : Hp} {σ : L2.St} {ρ : List Sl} {kt : Kt} {E : Ends} (o : Ok T μ0 R0 H0 μ R H σ ρ) (en : EndsOk T μ0 R0 H0 R kt E) (i : Nat) : To T μ R H (fun d μ1 => kt.nx (ρ.set i (some d)) μ1) (fun x H1 => gName i x σ H1 E.nx) :=
  fun v d μ' R' H' n r hw => en.nx _ _ _ _ _ n.r ((o.nx n).set i r) hw
theorem ss_set (i : Nat) (e : CE) : SS P hi Γ k N (.set i e) := by
  intro sc s hc X B μ0 R0 H0 S hp μ R H σ ρ kt E o w en
  cases s <;> first | exact absurd hc Bool.false_ne_true | skip
  rename_i ts v pos
  rcases ts with _ | ⟨t, _ | ⟨_, _⟩⟩ <;> first | exact absurd hc Bool.false_ne_true | skip
  simp only [chkS, Bool.and_eq_true] at hc
  obtain ⟨h1, h2⟩ := hc
  cases t <;> first | exact absurd h1 Bool.false_ne_true | skip
  rename_i x px
  simp only [chkName, Bool.and_eq_true, decide_eq_true_eq] at h1
  obtain ⟨l1, l2⟩ := S.loc h1.2
  have nd : X.N.Nodup := by rw [S.hN]; exact S.nd
  have ix : X.N[i]? = some x := by rw [S.hN]; exact h1.1
  have key := (sE Γ e).1 sc sc v h2 X B μ0 R0 H0 S μ R H σ ρ _ _ o w (set_end o en i)
  cases hcmp : isComp v with
  | false => exact of_ps (ps_set nd ix l1 (pe_wpt v) (swaps_no hcmp _ _ _) l2) key
  | true =>
    cases e <;> cases v <;> first | exact absurd h2 Bool.false_ne_true | (simp [isComp] at hcmp; done) | (rw [(frz_chk h2).1] at hcmp; cases hcmp; done) | skip
    rename_i tg it cond elt own f gens scope spos
    cases hsw : swB sc x px (.ListComp f gens scope spos) with
    | false => exact of_ps (ps_set nd ix l1 (pe_wpt _) (by rw [sw_eq (by rw [S.hs]; exact S.kd), S.hs, hsw]) l2) key
    | true =>
      obtain ⟨f', tx, it', ifs, scope', pos', e', q1, q2, q3, q4, q5, q6⟩ := lc_parts h2
      cases e'
      have ok : BlkOk X.N X.env.scope scope own := by rw [S.hN, S.hs]; exact blkOk_by q5
      have hyl : X.env.scope.names.lookup x = some .local := by
        rw [S.hs]
        simp only [swB, Bool.and_eq_true] at hsw
        have hq := hsw.1.1
        split at hq
        · assumption
        · cases hq
      refine of_ps (ps_setLc (g := bg X scope tx) (tt := bt X scope ifs) (te := be X scope f) S.calm nd ix hyl (by rw [sw_eq (by rw [S.hs]; exact S.kd), S.hs, hsw]) (pi_wpt tx it') ok (fun s H C cl fp => ⟨fun pins s' σ H v u Q I r h => h s _ C cl fp pins s' u I r⟩) (fun s H C cl fp => ⟨fun pins s' σ H Q I h => h s _ C cl fp pins s' I⟩) (fun s H C cl fp => ⟨fun pins s' σ H Q I h => h s _ C cl fp pins s' I⟩) (chkI_fold q2 X.env)) ?_
      exact lc_read (sI Γ it) (sC Γ.noex cond) (sE Γ.noex elt).1 q1 q2 q3 q4 q5 q6 S o (show wE Γ (.lc tg it cond elt own) ρ μ (fun d μ1 => kt.nx (ρ.set i (some d)) μ1) from w) (set_end o en i)
theorem ss_expr (e : CE) : SS P hi Γ k N (.expr e) := by
  intro sc s hc X B μ0 R0 H0 S hp μ R H σ ρ kt E o w en
  cases s <;> first | exact absurd hc Bool.false_ne_true | skip
  rename_i v pos
  simp only [chkS, Bool.and_eq_true, Bool.not_eq_true'] at hc
  refine of_ps (ps_expr (pe_wpt v) (swaps_no hc.2 _ _ _)) ?_
  exact (sE Γ e).1 sc sc v hc.1 X B μ0 R0 H0 S μ R H σ ρ _ _ o w fun v d μ' R' H' n r hw => en.nx _ _ _ _ _ n.r (o.nx n) hw
theorem ss_ret (e : CE) : SS P hi Γ k N (.ret e) := by
  intro sc s hc X B μ0 R0 H0 S hp μ R H σ ρ kt E o w en
  cases s <;> first | exact absurd hc Bool.false_ne_true | skip
  rename_i v pos
  cases v with
  | none => exact absurd hc Bool.false_ne_true
  | some v =>
  refine of_ps (ps_ret (pe_wpt v)) ?_
  exact (sE Γ e).1 sc sc v hc X B μ0 R0 H0 S μ R H σ ρ _ _ o w fun v d μ' R' H' n r hw => en.rt _ _ _ _ _ (o.ext.trans n) r hw
theorem ss_retN : SS P hi Γ k N .retN := by
  intro sc s hc X B μ0 R0 H0 S hp μ R H σ ρ kt E o w en
  cases s <;> first | exact absurd hc Bool.false_ne_true | skip
  rename_i v pos
  cases v with
  | some v => exact absurd hc Bool.false_ne_true
  | none => exact of_ps ps_retN (en.rt _ _ _ _ _ o.ext .non w)
theorem ss_pass : SS P hi Γ k N .pass := by
  intro sc s hc X B μ0 R0 H0 S hp μ R H σ ρ kt E o w en
  cases s <;> first | exact absurd hc Bool.false_ne_true | skip
  exact of_ps ps_pass (en.nx _ _ _ _ _ (Same.refl _) o w)
theorem ss_brk : SS P hi Γ k N .brk := by
  intro sc s hc X B μ0 R0 H0 S hp μ R H σ ρ kt E o w en
  cases s <;> first | exact absurd hc Bool.false_ne_true | skip
  exact of_ps ps_break (en.bk _ _ _ _ _ (Same.refl _) o w)
theorem ss_cont : SS P hi Γ k N .cont := by
  intro sc s hc X B μ0 R0 H0 S hp μ R H σ ρ kt E o w en
  cases s <;> first | exact absurd hc Bool.false_ne_true | skip
  exact of_ps ps_continue (en.ct _ _ _ _ _ (Same.refl _) o w)
theorem ss_ite {t : CE} {a b : CSs} (ha : SSs P hi Γ k N a) (hb : SSs P hi Γ k N b) : SS P hi Γ k N (.ite t a b) := by
  intro sc s hc X B μ0 R0 H0 S hp μ R H σ ρ kt E o w en
  cases s <;> first | exact absurd hc Bool.false_ne_true | skip
  rename_i c x y pos
  simp only [chkS, Bool.and_eq_true] at hc
  refine of_ps (ps_if (pt_wpt c) (pss_wpt x) (pss_wpt y)) ?_
  refine (sE Γ t).2 sc sc c hc.1.1 X B μ0 R0 H0 S μ R H σ ρ _ _ o w fun d μ1 R1 H1 n1 w1 => truD_imp w1 fun c hw => ?_
  cases c with
  | true => exact iteT (ha sc x hc.1.2 X B μ0 R0 H0 S hp μ1 R1 H1 σ ρ kt E (o.nx n1) hw (en.up n1.r))
  | false => exact iteF (hb sc y hc.2 X B μ0 R0 H0 S hp μ1 R1 H1 σ ρ kt E (o.nx n1) hw (en.up n1.r))
theorem ss_for {tg : Tg} {it : CI} {body : CSs} (hb : SSs P hi Γ k N body) : SS P hi Γ k N (.for_ tg it body) := by
  intro sc s hc X B μ0 R0 H0 S hp μ R H σ ρ kt E o w en
  cases s <;> first | exact absurd hc Bool.false_ne_true | skip
  rename_i t i x orelse pos
  cases orelse with
  | cons _ _ => exact absurd hc Bool.false_ne_true
  | nil =>
  simp only [chkS, Bool.and_eq_true] at hc
  obtain ⟨⟨h1, h2⟩, h3⟩ := hc
  refine of_ps (ps_for hp S.calm (pi_wpt t i) (pg_wpt t) (pss_wpt x) (chkI_fold h2 X.env)) ?_
  refine sI Γ it sc sc i t h2 X B μ0 R0 H0 S μ R H σ ρ _ _ o w fun J xs μ1 R1 H1 n1 it1 _ w1 => ?_
  obtain ⟨G, Y, wk, hG, hY⟩ := it1.ex
  refine for_it wk (fun j σ H => ∃ μ R ρ, Ok (P.tb hi X.K B) μ0 R0 H0 μ R H σ ρ ∧ Same R1 R ∧ forD (bindT tg) (wSs Γ body) kt (xs.drop j) ρ μ) ⟨μ1, R1, ρ, o.nx n1, Same.refl _, w1⟩ (fun j σ H _ ⟨μ, R, ρ, o, s, _⟩ => hG R H s o.sub) ?_ ?_
  · rintro j v σ H H' hj ⟨μ, R, ρ, o, s, w⟩ y
    obtain ⟨d, R', hd, n', rd⟩ := hY j μ R H v H' s o.sub o.bag o.sto y
    have e : xs.drop j = d :: xs.drop (j + 1) := by
      have hlt := (List.getElem?_eq_some_iff.mp hd).1
      rw [List.drop_eq_getElem_cons hlt]
      congr 1
      exact (List.getElem?_eq_some_iff.mp hd).2
    rw [e] at w
    refine tg_ok S h1 (o.nx n') rd w fun σ2 ρ2 o2 _ hP => ?_
    refine hb sc x h3 X B μ0 R0 H0 S hp μ R' H' σ2 ρ2 _ _ o2 hP ⟨?_, ?_, ?_, ?_⟩
    · intro σ3 ρ3 μ3 R3 H3 s3 o3 w3
      exact ⟨μ3, R3, ρ3, o3, s.trans (n'.r.trans s3), w3⟩
    · exact fun σ3 ρ3 μ3 R3 H3 s3 o3 w3 => en.nx _ _ _ _ _ (n1.r.trans (s.trans (n'.r.trans s3))) o3 w3
    · intro σ3 ρ3 μ3 R3 H3 s3 o3 w3
      exact ⟨μ3, R3, ρ3, o3, s.trans (n'.r.trans s3), w3⟩
    · exact en.rt
  · rintro σ H ⟨μ, R, ρ, o, s, w⟩
    rw [List.drop_length] at w
    exact en.nx _ _ _ _ _ (n1.r.trans s) o w
theorem swst_none {ts : List Expr} {kk : Nat} {p : Pos} {v : Expr} (h : isTup v = false) (env : Env) : swappedStores [.Tuple ts kk p] v env = pure none := by
  cases v <;> first | rfl | (simp [isTup] at h)
theorem fm_short {α β : Type} (f : α → Option β) : ∀ {l : List α}, (l.filterMap f).length = l.length → ∀ x ∈ l, (f x).isSome = true
  | [], _, _, h => by cases h
  | a :: l, h, x, hx => by
    cases e : f a with
    | none =>
      rw [List.filterMap_cons_none e] at h
      have := List.length_filterMap_le f l
      simp only [List.length_cons] at h
      omega
    | some b =>
      rw [List.filterMap_cons_some e] at h
      simp only [List.length_cons, Nat.add_right_cancel_iff] at h
      rcases List.mem_cons.mp hx with rfl | hx
      · rw [e]; rfl
      · exact fm_short f h x hx
theorem swst_tup {ts vs : List Expr} {kk k2 : Nat} {p p2 : Pos} {env : Env} (hk : env.scope.kind = .function) (hs : vs.any isStar = false) (h : (vs.length == ts.length) = false ∨ allLoc env.scope ts = false) :
    swappedStores [.Tuple ts kk p] (.Tuple vs k2 p2) env = pure none := by
  unfold swappedStores
  simp only [pure_bind, bind_pure_comp]
  split
  · rfl
  · rename_i hn
    split
    · rename_i hh
      exfalso
      have : vs.any isStar = true := by
        rw [← hh]; congr 1
      rw [this] at hs; cases hs
    · split
      · rfl
      · rename_i hne
        exfalso
        rcases h with h | h
        · apply hn
          have h' : (vs.length != ts.length) = true := by simp only [bne, h, Bool.not_false]
          rw [h']; simp
        · apply hne
          rw [Bool.or_eq_true]
          refine .inl ?_
          rw [bne_iff_ne]
          intro hl
          have all := fm_short _ hl
          have : allLoc env.scope ts = true := by
            unfold allLoc
            rw [List.all_eq_true]
            intro t ht
            have q := all t ht
            cases t <;> simp at q ⊢
            rename_i x pp
            have e : env.scope.names.lookup x = some .local := q.1
            rw [e]
          rw [this] at h; cases h
theorem tupR_ok {ts : List Expr} {kk : Nat} {p : Pos} {v : Expr} {env : Env} (hk : env.scope.kind = .function) (h : tupR env.scope ts v = true) : swappedStores [.Tuple ts kk p] v env = pure none := by
  cases ht : isTup v with
  | false => exact swst_none ht env
  | true =>
    cases v <;> first | exact absurd ht Bool.false_ne_true | skip
    simp only [tupR, Bool.and_eq_true, Bool.or_eq_true, Bool.not_eq_true'] at h
    exact swst_tup hk h.2 h.1
theorem ss_setT (is : List Nat) (e : CE) : SS P hi Γ k N (.setT is e) := by
  intro sc s hc X B μ0 R0 H0 S hp μ R H σ ρ kt E o w en
  cases s <;> first | exact absurd hc Bool.false_ne_true | skip
  rename_i ts v pos
  rcases ts with _ | ⟨t, tl⟩ <;> first | exact absurd hc Bool.false_ne_true | skip
  cases t <;> first | exact absurd hc Bool.false_ne_true | skip
  rename_i es kk pt
  cases tl with
  | cons _ _ => exact absurd hc Bool.false_ne_true
  | nil =>
  simp only [chkS, Bool.and_eq_true, Bool.not_eq_true'] at hc
  obtain ⟨⟨⟨h1, h2⟩, h3⟩, h4⟩ := hc
  obtain ⟨q1, q2, q3⟩ := names_ok S h1
  refine of_ps (ps_asg (pe_wpt v) (pg_tup S.calm q1 q2 q3) (by unfold swapsWithSole; exact swaps_no h3 _ _ _) (tupR_ok (by rw [S.hs]; exact S.kd) (by rw [S.hs]; exact h4)) rfl) ?_
  refine (sE Γ e).1 sc sc v h2 X B μ0 R0 H0 S μ R H σ ρ _ _ o w fun v d μ' R' H' n r hw => ?_
  cases r <;> first | exact hw.elim | skip
  rename_i a xs ds q r
  exact ⟨a, xs, rfl, sqT_mono n.s q, by rw [r.length]; exact hw.1.symm, by rw [r.length]; exact hw.1.symm, en.nx _ _ _ _ _ n.r (setAll_ok (o.nx n) r) hw.2⟩
theorem isLoc_of {sc : Scope} {x : Str} (h : isLoc sc x = true) : sc.names.lookup x = some .local := by
  unfold isLoc at h
  split at h
  · assumption
  · cases h
theorem swst_par {x y : Str} {px py p p2 : Pos} {kk k2 : Nat} {v w : Expr} {env : Env} (hk : env.scope.kind = .function) (hx : env.scope.names.lookup x = some .local) (hy : env.scope.names.lookup y = some .local) (hl : (px.line == py.line) = true)
    (hxy : (x == y) = false) (hv : isStar v = false) (hw : isStar w = false) (hfa : foldA [v, w] = false) (hfb : foldB [v, w] = false) : swappedStores [.Tuple [.Name x px, .Name y py] kk p] (.Tuple [v, w] k2 p2) env = pure (some [x, y]) := by
  have kx : env.kindOf x = some .local := hx
  have ky : env.kindOf y = some .local := hy
  have hb := block_fn hk
  have hyx : (y == x) = false := by
    have : x ≠ y := by simpa using hxy
    simpa using this.symm
  have el : (py.line == px.line) = true := by rw [beq_iff_eq] at hl ⊢; exact hl.symm
  have st : ∀ e : Expr, (match e with | .Starred _ _ => true | _ => false) = isStar e := fun e => by cases e <;> rfl
  have es : List.any [v, w] isStar = false := by simp [hv, hw]
  unfold foldA at hfa
  unfold foldB at hfb
  unfold swappedStores
  simp only [pure_bind, bind_pure_comp]
  rw [if_neg (by rw [hb]; simp)]
  rw [if_neg (fun h => by
    obtain ⟨e, he, h2⟩ := List.any_eq_true.mp h
    have h3 : isStar e = true := by cases e <;> first | rfl | exact absurd h2 (by simp)
    have h4 := List.any_eq_true.mpr ⟨e, he, h3⟩
    rw [es] at h4; cases h4)]
  have hp : (Expr.Name x px).pos.line = px.line := rfl
  have ef : List.eraseDups [x, y] = [x, y] := by simp [List.eraseDups_cons, hyx]
  simp only [List.filterMap_cons, List.filterMap_nil, kx, ky, List.head?_cons, Option.map_some, Option.getD_some, hp, el, beq_self_eq_true, Bool.and_self, if_true, ef, hfa, hfb]
  simp
theorem ss_par (i j : Nat) (a b : CE) : SS P hi Γ k N (.par i j a b) := by
  intro sc s hc X B μ0 R0 H0 S hp μ R H σ ρ kt E o w en
  cases s <;> first | exact absurd hc Bool.false_ne_true | skip
  rename_i ts v pos
  rcases ts with _ | ⟨t, tl⟩ <;> first | exact absurd hc Bool.false_ne_true | skip
  cases t <;> first | exact absurd hc Bool.false_ne_true | skip
  rename_i es kk pt
  rcases es with _ | ⟨e1, es⟩ <;> first | exact absurd hc Bool.false_ne_true | skip
  cases e1 <;> first | exact absurd hc Bool.false_ne_true | skip
  rename_i x px
  rcases es with _ | ⟨e2, es⟩ <;> first | exact absurd hc Bool.false_ne_true | skip
  cases e2 <;> first | exact absurd hc Bool.false_ne_true | skip
  rename_i y py
  rcases es with _ | ⟨_, _⟩ <;> first | exact absurd hc Bool.false_ne_true | skip
  rcases tl with _ | ⟨_, _⟩ <;> first | exact absurd hc Bool.false_ne_true | skip
  cases v <;> first | exact absurd hc Bool.false_ne_true | skip
  rename_i vs k2 p2
  rcases vs with _ | ⟨v, _ | ⟨u, _ | ⟨_, _⟩⟩⟩ <;> first | exact absurd hc Bool.false_ne_true | skip
  simp only [chkS, Bool.and_eq_true, decide_eq_true_eq, Bool.not_eq_true'] at hc
  obtain ⟨⟨⟨⟨⟨⟨⟨⟨⟨⟨h1, h2⟩, h4⟩, h5⟩, h6⟩, h7⟩, h8⟩, h9⟩, h10⟩, h11⟩, h12⟩ := hc
  have lx : X.env.scope.names.lookup x = some .local := by rw [S.hs]; exact isLoc_of h4
  have ly : X.env.scope.names.lookup y = some .local := by rw [S.hs]; exact isLoc_of h5
  have hij : i ≠ j := fun e => by
    subst e
    rw [h1] at h2
    cases h2
    simp at h7
  refine of_ps (ps_par S.calm (by rw [S.hN]; exact S.nd) (by rw [S.hN]; exact h1) (by rw [S.hN]; exact h2) hij lx ly (pa_cons (pe_wpt v) (pa_cons (pe_wpt u) pa_nil (star_cons h9 [] X.env)) (star_cons h8 _ X.env)) (swst_par (by rw [S.hs]; exact S.kd) lx ly h6 h7 h8 h9 h10.1 h10.2) rfl) ?_
  refine (sE Γ a).1 sc sc v h11 X B μ0 R0 H0 S μ R H σ ρ _ _ o w fun z d μ1 R1 H1 n1 r1 w1 => ?_
  refine (sE Γ b).1 sc sc u h12 X B μ0 R0 H0 S μ1 R1 H1 σ ρ _ _ (o.nx n1) w1 fun z2 d2 μ2 R2 H2 n2 r2 w2 => ?_
  exact ⟨z, z2, rfl, en.nx _ _ _ _ _ (n1.trans n2).r ((((o.nx n1).nx n2).set i (r1.mono n2.r)).set j r2) w2⟩
theorem ss_attr (oe : CE) (f : Nat) (e : CE) : SS P hi Γ k N (.attr oe f e) := by
  intro sc s hc X B μ0 R0 H0 S hp μ R H σ ρ kt E o w en
  cases s <;> first | exact absurd hc Bool.false_ne_true | skip
  rename_i ts v pos
  rcases ts with _ | ⟨t, _ | ⟨_, _⟩⟩ <;> first | exact absurd hc Bool.false_ne_true | (cases t <;> first | exact absurd hc Bool.false_ne_true | skip)
  rename_i l x pos2
  simp only [chkS, Bool.and_eq_true, Bool.not_eq_true'] at hc
  obtain ⟨⟨⟨hf, hcmp⟩, h1⟩, h2⟩ := hc
  obtain ⟨rfl, hno⟩ := fld_ok hf S.sg.fa.cls
  refine of_ps (ps_fld (pe_wpt l) (pe_wpt v) (swaps_no hcmp _ _ _)) ?_
  refine (sE Γ e).1 sc sc v h2 X B μ0 R0 H0 S μ R H σ ρ _ _ o w fun y d μ1 R1 H1 n1 r1 w1 => ?_
  refine (sE Γ oe).1 sc sc l h1 X B μ0 R0 H0 S μ1 R1 H1 σ ρ _ _ (o.nx n1) w1 fun z d' μ2 R2 H2 n2 r2 w2 => ?_
  cases r2 <;> first | exact w2.elim | skip
  rename_i a
  have w2 : (match μ2 a with | some (.ins c fs) => fs.length < 1000 ∧ c < Γ.nc ∧ kt.nx ρ (μ2.set a (.ins c (putD f d fs))) | _ => False) := w2
  cases e1 : μ2 a with
  | none => simp only [e1] at w2
  | some d2 =>
    cases d2 <;> simp only [e1] at w2
    rename_i c fs
    obtain ⟨hl, hlt, w2⟩ := w2
    rw [S.sg.nc] at hlt
    obtain ⟨dx, vs, h3, h4⟩ := (n2.o a _ e1).2.2
    have n3 := Nx.put n2.s n2.b n2.o (u := .ins (He.ga X.K (clsName P c)) dx (putF (anF P.an f) y vs)) (d := .ins c (putD f d fs)) (p := a) (.inr (by rw [e1]; exact fun z => nomatch z)) ⟨dx, _, upd_same, RdF.put (r1.mono n2.r) h4⟩
    exact ⟨a, _, dx, vs, rfl, h3, (S.sg.fa.cls.cls c hlt).cls, hno c hlt, by rw [h4.length]; exact hl, en.nx _ _ _ _ _ ((n1.trans n2).trans n3).r (o.nx ((n1.trans n2).trans n3)) w2⟩
theorem ss_sub (oe ie e : CE) : SS P hi Γ k N (.sub oe ie e) := by
  intro sc s hc X B μ0 R0 H0 S hp μ R H σ ρ kt E o w en
  cases s <;> first | exact absurd hc Bool.false_ne_true | skip
  rename_i ts v pos
  rcases ts with _ | ⟨t, _ | ⟨_, _⟩⟩ <;> first | exact absurd hc Bool.false_ne_true | (cases t <;> first | exact absurd hc Bool.false_ne_true | skip)
  rename_i l j pos2
  simp only [chkS, Bool.and_eq_true, Bool.not_eq_true'] at hc
  obtain ⟨⟨⟨⟨hcmp, hsl⟩, h1⟩, h2⟩, h3⟩ := hc
  have ha : ∀ v, assign (.Subscript l j pos2) X.env v = (do
      let ov ← holding [v] (eval l X.env)
      let iv ← holding [v, ov] (eval j X.env)
      standAt pos2
      holding [v, ov, iv] (setItem ov iv v)
      release [v, ov, iv] []) := by
    intro v
    cases j <;> first | rfl | (simp [isSlice] at hsl)
  refine of_ps (ps_asg (pe_wpt v) (pg_sub (pe_wpt l) (pe_wpt j) set_list ha) (by unfold swapsWithSole; exact swaps_no hcmp _ _ _)) ?_
  refine (sE Γ e).1 sc sc v h3 X B μ0 R0 H0 S μ R H σ ρ _ _ o w fun y d μ1 R1 H1 n1 r1 w1 => ?_
  refine (sE Γ oe).1 sc sc l h1 X B μ0 R0 H0 S μ1 R1 H1 σ ρ _ _ (o.nx n1) w1 fun z d' μ2 R2 H2 n2 r2 w2 => ?_
  refine (sE Γ ie).1 sc sc j h2 X B μ0 R0 H0 S μ2 R2 H2 σ ρ _ _ ((o.nx n1).nx n2) w2 fun z3 d3 μ3 R3 H3 n3 r3 w3 => ?_
  cases r2 <;> first | exact w3.elim | skip
  rename_i a
  cases r3 <;> first | exact w3.elim | skip
  rename_i i
  have w4 : (match μ3 a with
    | some (.lst xs) => (match ixN xs.length i with | some j => kt.nx ρ (μ3.set a (.lst (xs.set j d))) | none => False)
    | _ => False) := w3
  cases e1 : μ3 a with
  | none => simp only [e1] at w4
  | some d2 =>
    cases d2 <;> simp only [e1] at w4
    rename_i xs
    cases e2 : ixN xs.length i with
    | none => simp only [e2] at w4
    | some jj =>
      simp only [e2] at w4
      obtain ⟨vs, h4, h5⟩ := (n3.o a _ e1).2.2
      have n4 := Nx.put n3.s n3.b n3.o (u := .lst (vs.set jj y)) (d := .lst (xs.set jj d)) (p := a) (.inr (by rw [e1]; exact fun z => nomatch z)) ⟨_, upd_same, RdAll.set jj h5 (r1.mono (n2.r.trans n3.r))⟩
      exact ⟨a, vs, i, jj, rfl, rfl, h4, by rw [h5.length]; exact e2, en.nx _ _ _ _ _ (((n1.trans n2).trans n3).trans n4).r (o.nx (((n1.trans n2).trans n3).trans n4)) w4⟩
theorem sss_nil : SSs P hi Γ k N .nil := by
  intro sc s hc X B μ0 R0 H0 S hp μ R H σ ρ kt E o w en
  cases s with
  | cons _ _ => exact absurd hc Bool.false_ne_true
  | nil => exact of_pss pss_nil (en.nx _ _ _ _ _ (Same.refl _) o w)
theorem sss_cons {s : CS} {ss : CSs} (hs : SS P hi Γ k N s) (hss : SSs P hi Γ k N ss) : SSs P hi Γ k N (.cons s ss) := by
  intro sc l hc X B μ0 R0 H0 S hp μ R H σ ρ kt E o w en
  cases l with
  | nil => exact absurd hc Bool.false_ne_true
  | cons x l =>
    simp only [chkSs, Bool.and_eq_true] at hc
    refine of_pss (pss_cons (ps_wpt x) (pss_wpt l)) ?_
    refine hs sc x hc.1 X B μ0 R0 H0 S hp μ R H σ ρ _ _ o w ⟨fun σ' ρ' μ' R' H' s' o' w' => ?_, en.bk, en.ct, en.rt⟩
    exact hss sc l hc.2 X B μ0 R0 H0 S hp μ' R' H' σ' ρ' kt E o' w' (en.up s')
theorem ss_never : SS P hi Γ k N .never := by
  intro sc s hc X B μ0 R0 H0 S hp μ R H σ ρ kt E o w en
  exact False.elim w
mutual
theorem sS : ∀ s : CS, SS P hi Γ k N s
  | .set i e => ss_set i e
  | .setT is e => ss_setT is e
  | .par i j a b => ss_par i j a b
  | .attr o f e => ss_attr o f e
  | .sub o i e => ss_sub o i e
  | .expr e => ss_expr e
  | .ret e => ss_ret e
  | .retN => ss_retN
  | .pass => ss_pass
  | .brk => ss_brk
  | .cont => ss_cont
  | .ite t a b => ss_ite (sSs a) (sSs b)
  | .for_ tg it body => ss_for (sSs body)
  | .never => ss_never
theorem sSs : ∀ s : CSs, SSs P hi Γ k N s
  | .nil => sss_nil
  | .cons s ss => sss_cons (sS s) (sSs ss)
end

end
end MP
set_option maxHeartbeats 4000000
/-! MP: a call's plan, and the values that come to the parameters. -/
namespace MP
open PySem PySem.Spec PyProof.Rows L2
def Dc.v : Dc → V
  | .non => .non | .bl b => .bl b | .int i => .int i | .str x => .str x | .strs _ => .non
theorem Dc.rd {T : Tb} {R : Hp} {d : Dc} (h : d.flat = true) : Rd T R d.v d.d := by
  cases d <;> first | (cases h; done) | constructor
/-- what a plan's item picks -/
def PlR (ds es : List D) : Pl → D → Prop
  | .pos i, d => ds[i]? = some d
  | .kw i, d => es[i]? = some d
  | .rest i, d => d = .tup (ds.drop i) ∧ (ds.drop i).length ≤ sizeLine
  | .dfl c, d => d = c.d
theorem pick_inv {ds es : List D} : ∀ {pl : List Pl} {Q : List D → Prop}, pick ds es pl Q → ∃ ls, ls.length = pl.length ∧ (∀ (i : Nat) (p : Pl), pl[i]? = some p → ∃ d : D, ls[i]? = some d ∧ PlR ds es p d) ∧ Q ls
  | [], Q, h => ⟨[], rfl, fun i p e => by simp at e, h⟩
  | p :: r, Q, h => by
    have key : ∃ d, PlR ds es p d ∧ pick ds es r fun l => Q (d :: l) := by
      cases p with
      | pos i =>
        simp only [pick] at h
        cases e : ds[i]? with
        | none => simp only [e] at h
        | some d => simp only [e] at h; exact ⟨d, e, h⟩
      | kw i =>
        simp only [pick] at h
        cases e : es[i]? with
        | none => simp only [e] at h
        | some d => simp only [e] at h; exact ⟨d, e, h⟩
      | rest i => simp only [pick] at h; exact ⟨_, ⟨rfl, h.1⟩, h.2⟩
      | dfl c => simp only [pick] at h; exact ⟨_, rfl, h⟩
    obtain ⟨d, hd, h⟩ := key
    obtain ⟨ls, h1, h2, h3⟩ := pick_inv h
    refine ⟨d :: ls, by simp [h1], fun i q e => ?_, h3⟩
    cases i with
    | zero => simp only [List.getElem?_cons_zero, Option.some.injEq] at e; subst e; exact ⟨d, rfl, hd⟩
    | succ i => simp only [List.getElem?_cons_succ] at e ⊢; exact h2 i q e
theorem idx_some {x : Str} : ∀ {ks : List Str} {j : Nat}, ks.findIdx? (· == x) = some j → ks[j]? = some x
  | [], _, h => by simp at h
  | k :: ks, j, h => by
    rw [List.findIdx?_cons] at h
    by_cases e : (k == x) = true
    · rw [if_pos e] at h
      cases h
      simpa using e
    · rw [if_neg e] at h
      cases e2 : ks.findIdx? (· == x) with
      | none => rw [e2] at h; cases h
      | some i =>
        rw [e2] at h
        cases h
        simpa using idx_some e2
theorem idx_none {x : Str} {ks : List Str} (h : ks.findIdx? (· == x) = none) : x ∉ ks := by
  rw [List.findIdx?_eq_none_iff] at h
  intro hm
  have := h x hm
  simp at this
theorem lk_zip {β : Type} {x : Str} : ∀ {ks : List Str} {vs : List β} {j : Nat}, ks.Nodup → ks[j]? = some x → (ks.zip vs).lookup x = vs[j]?
  | [], _, _, _, h => by simp at h
  | k :: ks, [], j, _, _ => by simp
  | k :: ks, v :: vs, 0, _, h => by simp at h; subst h; simp [List.lookup]
  | k :: ks, v :: vs, j + 1, nd, h => by
    have h' : ks[j]? = some x := by simpa using h
    have hne : x ≠ k := fun e => by
      subst e
      exact (List.nodup_cons.mp nd).1 (List.mem_of_getElem? h')
    have e' : (x == k) = false := by simpa using hne
    simp only [List.zip_cons_cons, List.lookup, e', List.getElem?_cons_succ]
    exact lk_zip (List.nodup_cons.mp nd).2 h'
theorem vals_get {vs : List V} {us : List Value} (r : Vals vs us) {i : Nat} {v : V} (h : vs[i]? = some v) : ∃ u, us[i]? = some u ∧ RelV v u := by
  obtain ⟨u, h1, h2⟩ := r.get h
  exact ⟨u, h1, h2⟩
/-- lists out of their items -/
theorem build {T : Tb} {R : Hp} {f : Nat → Option Value} : ∀ {ls : List D}, (∀ i d, ls[i]? = some d → ∃ u v, f i = some u ∧ RelV v u ∧ Rd T R v d) → ∃ (us : List Value) (vs : List V), us.length = ls.length ∧ Vals vs us ∧ RdAll T R vs ls ∧ ∀ i, i < ls.length → f i = us[i]?
  | [], _ => ⟨[], [], rfl, .nil, .nil, fun i h => by simp at h⟩
  | d :: ls, h => by
    obtain ⟨u, v, h1, h2, h3⟩ := h 0 d rfl
    obtain ⟨us, vs, q1, q2, q3, q4⟩ := build (f := fun i => f (i + 1)) (ls := ls) fun i d e => h (i + 1) d (by simpa using e)
    refine ⟨u :: us, v :: vs, by simp [q1], .cons h2 q2, .cons h3 q3, fun i hi => ?_⟩
    cases i with
    | zero => simpa using h1
    | succ i => simpa using q4 i (by simpa using hi)
section
variable {s : Sig} {n : Nat} {star : Bool} {ks : List Str} {pl : List Pl}
structure PlanF (s : Sig) (n : Nat) (star : Bool) (ks : List Str) (pl : List Pl) : Prop where
  all : plAll s n ks = pl.map some
  nd : ks.Nodup
  ins : ∀ k, k ∈ ks → k ∈ s.pos.drop n ∨ k ∈ s.kwo
  st : if star then s.pos.length ≤ n ∧ s.va.isSome = true else n ≤ s.pos.length ∨ s.va.isSome = true
theorem plan_f (h : planOk s n star ks pl = true) : PlanF s n star ks pl := by
  simp only [planOk, Bool.and_eq_true, decide_eq_true_eq, List.all_eq_true] at h
  obtain ⟨⟨⟨h1, h2⟩, h3⟩, h4⟩ := h
  refine ⟨h1, h2, fun k hk => by simpa [List.contains_eq_mem] using h3 k hk, ?_⟩
  cases star with
  | true => simpa using h4
  | false => simpa using h4
theorem plan_pos (F : PlanF s n star ks pl) {i : Nat} {x : Str} (h : s.pos[i]? = some x) : ∃ p, pl[i]? = some p ∧ plPos s n ks i x = some p := by
  have e := congrArg (fun l : List (Option Pl) => l[i]?) F.all
  simp only [plAll] at e
  have hi := (List.getElem?_eq_some_iff.mp h).1
  rw [List.getElem?_append_left (by simp; omega), List.getElem?_append_left (by simpa using hi), List.getElem?_map, List.getElem?_map] at e
  have e2 : s.pos.zipIdx[i]? = some (x, i) := by
    rw [List.getElem?_zipIdx, h]; simp
  rw [e2] at e
  simp only [Option.map_some] at e
  cases e3 : pl[i]? with
  | none => rw [e3] at e; simp at e
  | some p => rw [e3] at e; simp only [Option.map_some, Option.some.injEq] at e; exact ⟨p, rfl, e⟩
theorem plan_kw (F : PlanF s n star ks pl) {i : Nat} {x : Str} (h : s.kwo[i]? = some x) : ∃ p, pl[s.pos.length + i]? = some p ∧ plKw s ks x = some p := by
  have e := congrArg (fun l : List (Option Pl) => l[s.pos.length + i]?) F.all
  simp only [plAll] at e
  have hi := (List.getElem?_eq_some_iff.mp h).1
  rw [List.getElem?_append_left (by simp; omega), List.getElem?_append_right (by simp), List.getElem?_map] at e
  simp only [List.length_map, List.length_zipIdx, Nat.add_sub_cancel_left] at e
  rw [List.getElem?_map, h] at e
  simp only [Option.map_some] at e
  cases e3 : pl[s.pos.length + i]? with
  | none => rw [e3] at e; simp at e
  | some p => rw [e3] at e; simp only [Option.map_some, Option.some.injEq] at e; exact ⟨p, rfl, e⟩
theorem plan_len (F : PlanF s n star ks pl) : pl.length = s.ps.length := by
  have e := congrArg List.length F.all
  simp only [plAll, List.length_append, List.length_map, List.length_zipIdx] at e
  rw [← e]
  unfold Sig.ps Sig.pk
  cases s.va <;> simp [Nat.add_assoc]
theorem plan_va (F : PlanF s n star ks pl) {a : Str} (h : s.va = some a) : pl[s.pk.length]? = some (.rest s.pos.length) := by
  have e := congrArg (fun l : List (Option Pl) => l[s.pk.length]?) F.all
  simp only [plAll, h] at e
  rw [List.getElem?_append_right (by simp [Sig.pk]), List.getElem?_map] at e
  simp only [List.length_append, List.length_map, List.length_zipIdx, Sig.pk, Nat.sub_self, List.getElem?_cons_zero] at e
  cases e3 : pl[(s.pos ++ s.kwo).length]? with
  | none => rw [List.length_append] at e3; rw [e3] at e; simp at e
  | some p =>
    rw [List.length_append] at e3
    rw [e3] at e
    simp only [Option.map_some, Option.some.injEq] at e
    unfold Sig.pk
    rw [List.length_append, e3, ← e]
end
/-- a keyword-only default as K has it -/
def kdO (K : PySem.W.Frag) (kV : Value) (s : Sig) (x : Str) : Option Value := if s.kwo.contains x then (match kV with
  | .ref D => if (s.kwd.lookup x).isSome then (PySem.W.nsIn K D x).join else none
  | _ => none) else none
theorem lk_kw {x : Str} {c : Dc} : ∀ {l : List (Str × Dc)}, l.lookup x = some c → (x, c) ∈ l
  | [], h => by cases h
  | (a, b) :: l, h => by
    by_cases e : x = a
    · subst e; simp [List.lookup] at h; subst h; exact List.mem_cons_self
    · have e' : (x == a) = false := by simpa using e
      simp only [List.lookup, e'] at h
      exact List.mem_cons_of_mem _ (lk_kw h)
section
variable {T : Tb} {R : Hp} {K : PySem.W.Frag} {s : Sig} {n : Nat} {star : Bool} {ks : List Str} {pl : List Pl} {us ws : List Value} {vs zs : List V} {ds es : List D} {its : List Value} {kV : Value}
structure ArgF (K : PySem.W.Frag) (s : Sig) (n : Nat) (star : Bool) (ks : List Str) (us ws : List Value) (its : List Value) (kV : Value) : Prop where
  nd : s.pk.Nodup
  fl : s.dfl.all (fun d => d.flat) = true
  fk : s.kwd.all (fun d => d.2.flat) = true
  dl : s.dfl.length ≤ s.pos.length
  hn : us.length = n ∨ (star = true ∧ n ≤ us.length)
  hw : ws.length = ks.length
  its : Vals (s.dfl.map Dc.v) its
  kv : KwdV K kV (s.kwd.map fun q => (q.1, q.2.v))
theorem fval_pos (F : PlanF s n star ks pl) (A : ArgF K s n star ks us ws its kV) (rv : Vals vs us) (rz : Vals zs ws) (rd : RdAll T R vs ds) (re : RdAll T R zs es) {i : Nat} {x : Str} {p : Pl} {d : D} (h : s.pos[i]? = some x) (hp : plPos s n ks i x = some p) (hr : PlR ds es p d) :
    ∃ u v, fval s.pos us (ks.zip ws) its (kdO K kV s) x = some u ∧ RelV v u ∧ Rd T R v d ∧ (i < s.pos.length - its.length → ((s.pos.zip us ++ ks.zip ws).lookup x).isSome = true) := by
  have ndp : s.pos.Nodup := (List.nodup_append.mp A.nd).1
  have hi := (List.getElem?_eq_some_iff.mp h).1
  have li : its.length = s.dfl.length := by rw [← A.its.length]; simp
  unfold plPos at hp
  by_cases hin : i < n
  · rw [if_pos hin] at hp
    cases hp
    obtain ⟨v, h1, h2⟩ := rd.get' hr
    obtain ⟨u, h3, h4⟩ := vals_get rv h1
    have lk : (s.pos.zip us ++ ks.zip ws).lookup x = some u := by rw [lk_app, lk_zip ndp h, h3]; rfl
    exact ⟨u, v, by unfold fval; rw [lk]; rfl, h4, h2, fun _ => by rw [lk]; rfl⟩
  · rw [if_neg hin] at hp
    have hun : us.length ≤ i := by
      rcases A.hn with e | ⟨e1, e2⟩
      · omega
      · have := F.st
        rw [e1, if_pos rfl] at this
        omega
    have lz : (s.pos.zip us).lookup x = none := by
      refine lk_zip_none fun hm => ?_
      obtain ⟨j, hj⟩ := List.getElem?_of_mem hm
      rw [List.getElem?_take] at hj
      split at hj
      · rename_i hlt
        have := (List.getElem?_inj (by omega : j < s.pos.length) ndp).mp (hj.trans h.symm)
        omega
      · cases hj
    cases e : ks.findIdx? (· == x) with
    | some j =>
      simp only [e, Option.some.injEq] at hp
      subst hp
      have hkj := idx_some e
      obtain ⟨v, h1, h2⟩ := re.get' hr
      obtain ⟨u, h3, h4⟩ := vals_get rz h1
      have lk : (s.pos.zip us ++ ks.zip ws).lookup x = some u := by rw [lk_app, lz, lk_zip F.nd hkj, h3]; rfl
      exact ⟨u, v, by unfold fval; rw [lk]; rfl, h4, h2, fun _ => by rw [lk]; rfl⟩
    | none =>
      simp only [e] at hp
      have hk := idx_none e
      by_cases hd : s.pos.length - s.dfl.length ≤ i
      · rw [if_pos hd] at hp
        cases e2 : s.dfl[i - (s.pos.length - s.dfl.length)]? with
        | none => rw [e2] at hp; simp at hp
        | some c =>
          rw [e2] at hp
          simp only [Option.map_some, Option.some.injEq] at hp
          subst hp
          obtain rfl : d = c.d := hr
          have hc : c.flat = true := (List.all_eq_true.mp A.fl) c (List.mem_of_getElem? e2)
          obtain ⟨u, h3, h4⟩ := vals_get (i := i - (s.pos.length - s.dfl.length)) (v := c.v) A.its (by rw [List.getElem?_map, e2]; rfl)
          have lkw : (ks.zip ws).lookup x = none := lk_none_of fun hm => by
            rw [List.map_fst_zip (by rw [A.hw]; exact Nat.le_refl _)] at hm
            exact hk hm
          refine ⟨u, c.v, ?_, h4, Dc.rd hc, fun hl => by rw [li] at hl; omega⟩
          unfold fval
          rw [lk_app, lz, lkw, li, lk_zip (j := i - (s.pos.length - s.dfl.length)) (ndp.sublist (List.drop_sublist _ _)) (by rw [List.getElem?_drop, Nat.add_sub_cancel' hd]; exact h), h3]
          rfl
      · rw [if_neg hd] at hp; cases hp
theorem fval_kw (F : PlanF s n star ks pl) (A : ArgF K s n star ks us ws its kV) (rz : Vals zs ws) (re : RdAll T R zs es) {i : Nat} {x : Str} {p : Pl} {d : D} (h : s.kwo[i]? = some x) (hp : plKw s ks x = some p) (hr : PlR ds es p d) :
    ∃ u v, fval s.pos us (ks.zip ws) its (kdO K kV s) x = some u ∧ RelV v u ∧ Rd T R v d ∧ (((s.pos.zip us ++ ks.zip ws).lookup x).isSome = true ∨ ∃ (a : Addr) (w : Value), kV = .ref a ∧ PySem.W.nsIn K a x = some (some w) ∧ kdO K kV s x = some w) := by
  have hm := List.mem_of_getElem? h
  have hxp : x ∉ s.pos := fun hp => (List.nodup_append.mp A.nd).2.2 x hp x hm rfl
  have lz : (s.pos.zip us).lookup x = none := lk_zip_none fun hm => hxp (List.mem_of_mem_take hm)
  have li : ((s.pos.drop (s.pos.length - its.length)).zip its).lookup x = none := lk_zip_none fun hm => hxp (List.mem_of_mem_drop (List.mem_of_mem_take hm))
  unfold plKw at hp
  cases e : ks.findIdx? (· == x) with
  | some j =>
    simp only [e, Option.some.injEq] at hp
    subst hp
    have hkj := idx_some e
    obtain ⟨v, h1, h2⟩ := re.get' hr
    obtain ⟨u, h3, h4⟩ := vals_get rz h1
    have lk : (s.pos.zip us ++ ks.zip ws).lookup x = some u := by rw [lk_app, lz, lk_zip F.nd hkj, h3]; rfl
    exact ⟨u, v, by unfold fval; rw [lk]; rfl, h4, h2, .inl (by rw [lk]; rfl)⟩
  | none =>
    simp only [e] at hp
    have hk := idx_none e
    cases e2 : s.kwd.lookup x with
    | none => rw [e2] at hp; simp at hp
    | some c =>
      rw [e2] at hp
      simp only [Option.map_some, Option.some.injEq] at hp
      subst hp
      obtain rfl : d = c.d := hr
      have hc : c.flat = true := (List.all_eq_true.mp A.fk) _ (lk_kw e2)
      have lkw : (ks.zip ws).lookup x = none := lk_none_of fun hm => by
        rw [List.map_fst_zip (by rw [A.hw]; exact Nat.le_refl _)] at hm
        exact hk hm
      rcases A.kv with h0 | ⟨D, rfl, hD⟩
      · have : s.kwd = [] := by simpa using h0
        rw [this] at e2; cases e2
      · obtain ⟨u, h3, h4⟩ := hD (x, c.v) (List.mem_map.mpr ⟨(x, c), lk_kw e2, rfl⟩)
        have hkd : kdO K (.ref D) s x = some u := by
          unfold kdO
          rw [if_pos (by simpa using hm)]
          simp only [e2, Option.isSome_some, if_true]
          rw [h3]; rfl
        refine ⟨u, c.v, ?_, h4, Dc.rd hc, .inr ⟨D, u, rfl, h3, hkd⟩⟩
        unfold fval
        rw [lk_app, lz, lkw, li, hkd]
        rfl
end
end MP
set_option maxHeartbeats 4000000
/-! MP: a def of the table keeps its promise. -/
namespace MP
open PySem PySem.Spec PyProof.Rows L2
def Row.dvs (r : Row) : List V := r.sig.dfl.map Dc.v
def Row.kws (r : Row) : List (Str × V) := r.sig.kwd.map fun q => (q.1, q.2.v)
/-- the def as the head leaves it -/
def RowF (K : PySem.W.Frag) (r : Row) : Prop := ∃ fd, FunD K r.name r.qual (defArgs r.st) (defBody r.st) (defScope r.st) r.dvs r.kws (He.fAd K r.at_) fd
theorem start_ok {T : Tb} {μ : Mu} {R H : Hp} (s : Same R H) (b : BagOk T.B R H) (o : StoOk T R H μ) {N : List Str} {vs : List V} {ds : List D} (r : RdAll T R vs ds) : Ok T μ R H μ R H (L2.start N vs) (start0 N.length ds) := by
  have hl := r.length
  refine ⟨?_, fun i x h => ?_, Nx.refl s b o⟩
  · unfold L2.start start0; simp [hl]
  · unfold start0 at h
    by_cases hi : i < ds.length
    · rw [List.getElem?_append_left (by simpa using hi), List.getElem?_map] at h
      have hd : ds[i]? = some ds[i] := List.getElem?_eq_getElem hi
      rw [hd] at h
      cases h
      obtain ⟨v, hv, rv⟩ := r.get' hd
      refine ⟨v, ?_, rv⟩
      unfold L2.start
      rw [List.getElem?_append_left (by simp [hl, hi]), List.getElem?_map, hv]; rfl
    · rw [List.getElem?_append_right (by simpa using hi), List.getElem?_replicate] at h
      split at h <;> cases h
theorem looks_dfl {K : PySem.W.Frag} {M : Model} {h : Heap} {dV : Value} {dvs : List V} (X : K.In h) (d : DflV K dV dvs) : ∃ its, Vals dvs its ∧ ∃ o : Option (Array Value), PySem.W.Looks M h (seqItems? dV) o ∧ (o.getD #[]).toList = its := by
  rcases d with ⟨rfl, rfl⟩ | ⟨_, T, o, its, n, rfl, lT, oT, r⟩
  · exact ⟨[], .nil, none, PySem.W.Looks.of_pure rfl, rfl⟩
  · exact ⟨its, r, some its.toArray, fun A Q E s k q => wpAny_seqItems (k _ _ (X _ _ lT)) oT q, by simp⟩
section
variable {P : Prog} {hi : PInj P} {Γ : Sg} {k : Nat} {Pg : Program} {w : World} {K : PySem.W.Frag} {mg : Str → Option Value} {base : Heap}
/-- a def of the table by its body -/
theorem row_gen {f : Nat} {r : Row} {sp : Prm} (hr : P.rows[f]? = some r) (F : RowF K r) (hsh : (argsB (defArgs r.st) r.sig && scopeB r.N r.sig.ps (defScope r.st)) = true)
    (hbody : ∀ (B : Addr) (cdv : Value) (A : Around) (outer : List Env) (s : Shared) (H : Hp) (xs : List V) (ls : List D) (μ : Mu) (R : Hp) (Xx W : Po) (Q : VK) (E : XK), Room k (A.deeper (envOfC r.qual (defScope r.st) s.heap.objs.size (He.fAd K r.at_) cdv)) → RdAll (P.tb hi K B) R xs ls → Same R H → BagOk B R H → StoOk (P.tb hi K B) R H μ → ls.length = r.sig.ps.length → sp ls μ Xx W →
      To (P.tb hi K B) μ R H W Q → ToX (P.tb hi K B) μ R H Xx E → wpss (cxOf (L2.CX Pg w) Pg w K mg base r.N r.qual (defScope r.st) (He.fAd K r.at_) cdv A outer s H E) (defBody r.st) { nx := fun _ H' => Q .non H', rt := Q } (L2.start r.N xs) H) :
    CallOk P hi Pg w K mg base (k + 1) f sp := by
  refine ⟨r, hr, fun B A outer s H us vs ks ws zs ds es n star pl μ R Xx W Q E hR e0 rv rz hpl hn hk sR bR oR rd rd' hw t tx => ?_⟩
  obtain ⟨fd, F⟩ := F
  obtain ⟨oc, od, dV, kV, doc, pm, an, cdv, ct, osl, rfl, lk, hcd, hD, hK⟩ := F.ex
  rw [Bool.and_eq_true] at hsh
  obtain ⟨ha, hs⟩ := hsh
  have S := scope_by hs
  simp only [argsB, Bool.and_eq_true, decide_eq_true_eq] at ha
  obtain ⟨⟨⟨⟨⟨⟨⟨⟨a1, a2⟩, a3⟩, a4⟩, a5⟩, a6⟩, a7⟩, a8⟩, a9⟩ := ha
  have PF := plan_f hpl
  have KX : K.In s.heap := e0.mod.kin.keeps fun b o e => (e0.bs b o e).1
  obtain ⟨its, rI, oI, lI, eI⟩ := looks_dfl (M := model Pg w) KX hD
  have AF : ArgF K r.sig n star ks us ws its kV := ⟨a8, a1, a2, a9, hn, hk, rI, hK⟩
  obtain ⟨ls, l1, l2, hb⟩ := pick_inv hw
  have lps := plan_len PF
  have lsl : ls.length = r.sig.ps.length := l1.trans lps
  have llI : its.length = r.sig.dfl.length := by rw [← rI.length]; simp [Row.dvs]
  have hpk : r.sig.pk.length ≤ ls.length := by rw [lsl]; simp [Sig.ps]
  -- the values of the parameters
  have item : ∀ i d, (ls.take r.sig.pk.length)[i]? = some d → ∃ u v, (fun i => (r.sig.pk[i]?).bind fun x => fval r.sig.pos us (ks.zip ws) its (kdO K kV r.sig) x) i = some u ∧ RelV v u ∧ Rd (P.tb hi K B) R v d := fun i d e => by
    rw [List.getElem?_take] at e
    split at e
    · rename_i hlt
      have hx : r.sig.pk[i]? = some r.sig.pk[i] := List.getElem?_eq_getElem hlt
      generalize r.sig.pk[i] = x at hx
      have hx0 := hx
      unfold Sig.pk at hx
      by_cases hip : i < r.sig.pos.length
      · rw [List.getElem?_append_left hip] at hx
        obtain ⟨p, h1, h2⟩ := plan_pos PF hx
        obtain ⟨d', h3, h4⟩ := l2 i p h1
        obtain rfl : d' = d := Option.some.inj (h3.symm.trans e)
        obtain ⟨u, v, q1, q2, q3, _⟩ := fval_pos PF AF rv rz rd rd' hx h2 h4
        exact ⟨u, v, by show (r.sig.pk[i]?).bind _ = _; rw [hx0]; exact q1, q2, q3⟩
      · rw [List.getElem?_append_right (Nat.le_of_not_lt hip)] at hx
        obtain ⟨p, h1, h2⟩ := plan_kw PF hx
        rw [Nat.add_sub_cancel' (Nat.le_of_not_lt hip)] at h1
        obtain ⟨d', h3, h4⟩ := l2 i p h1
        obtain rfl : d' = d := Option.some.inj (h3.symm.trans e)
        obtain ⟨u, v, q1, q2, q3, _⟩ := fval_kw PF AF rz rd' hx h2 h4
        exact ⟨u, v, by show (r.sig.pk[i]?).bind _ = _; rw [hx0]; exact q1, q2, q3⟩
    · cases e
  obtain ⟨vals, vvs, b1, b2, b3, b4⟩ := build item
  have lv : vals.length = r.sig.pk.length := by rw [b1, List.length_take]; omega
  have mkw : (ks.zip ws).map (·.1) = ks := List.map_fst_zip (by rw [hk]; exact Nat.le_refl _)
  have BH : BindH (model Pg w) s (defArgs r.st) r.sig.pos r.sig.kwo dV kV us (ks.zip ws) its (kdO K kV r.sig) vals := by
    refine ⟨by simpa using a3, by simpa using a4, a5, a6, a8, fun k hk => ?_, by rw [mkw]; exact PF.nd, fun k hk hm => ?_, ?_, ⟨oI, lI, eI⟩, by rw [llI]; exact a9, fun x hx => ?_, fun x hx => ?_, fun x hx => ?_, by rw [lv]; rfl, fun i x hx => ?_⟩
    · rw [mkw] at hk
      exact (PF.ins k hk).imp List.mem_of_mem_drop id
    · rw [mkw] at hk
      have ndp := (List.nodup_append.mp a8)
      rcases PF.ins k hk with h | h
      · rcases hn with e | ⟨e1, e2⟩
        · rw [e] at hm
          have := List.nodup_append.mp (by rw [List.take_append_drop]; exact ndp.1 : (r.sig.pos.take n ++ r.sig.pos.drop n).Nodup)
          exact this.2.2 k hm k h rfl
        · have hst := PF.st
          rw [e1, if_pos rfl] at hst
          rw [List.drop_eq_nil_of_le hst.1] at h
          cases h
      · exact ndp.2.2 k (List.mem_of_mem_take hm) k h rfl
    · have hst := PF.st
      rw [← a7] at hst
      have eo : ((defArgs r.st).vararg.map (·.arg)).isSome = (defArgs r.st).vararg.isSome := by cases (defArgs r.st).vararg <;> rfl
      rw [eo] at hst
      cases star with
      | true => exact .inr hst.2
      | false =>
        rcases hn with e | ⟨e, _⟩
        · rw [e]; exact hst
        · cases e
    · obtain ⟨i, hi'⟩ := List.getElem?_of_mem hx
      rw [List.getElem?_take] at hi'
      split at hi'
      · rename_i hlt
        obtain ⟨p, h1, h2⟩ := plan_pos PF hi'
        obtain ⟨d', h3, h4⟩ := l2 i p h1
        obtain ⟨u, v, _, _, _, q4⟩ := fval_pos PF AF rv rz rd rd' hi' h2 h4
        exact q4 hlt
      · cases hi'
    · obtain ⟨i, hi'⟩ := List.getElem?_of_mem hx
      obtain ⟨p, h1, h2⟩ := plan_kw PF hi'
      obtain ⟨d', h3, h4⟩ := l2 _ p h1
      obtain ⟨u, v, _, _, _, q4⟩ := fval_kw PF AF rz rd' hi' h2 h4
      rcases q4 with q | ⟨D, u, e1, e2, e3⟩
      · exact .inl q
      · exact .inr ⟨D, u, e1, PySem.W.looks_nsIn KX e2, e3⟩
    · unfold kdO
      rw [if_neg (by simpa using hx)]
    · have hlt : i < r.sig.pk.length := (List.getElem?_eq_some_iff.mp hx).1
      have := b4 i (by rw [List.length_take]; omega)
      have hx' : r.sig.pk[i]? = some x := hx
      simp only [hx', Option.bind_some] at this
      exact this
  refine StX.run_bnd (N := r.N) (ps := r.sig.ps) lk hcd S (k := k) hR e0 (G := fun xs H2 => ∃ R2, RdAll (P.tb hi K B) R2 xs ls ∧ Nx (P.tb hi K B) μ R H μ R2 H2) (fun A' Ex Q' h => ?_) fun s2 H2 xs g hr' => ?_
  · refine bind_run BH (fun hva => ?_) fun a hva => ?_
    · have hps : r.sig.ps = r.sig.pos ++ r.sig.kwo := by
        have : r.sig.va = none := by rw [← a7, hva]; rfl
        unfold Sig.ps Sig.pk; rw [this]; simp
      have e2 : ls.take r.sig.pk.length = ls := List.take_of_length_le (by rw [lsl, hps]; exact Nat.le_refl _)
      rw [e2] at b3
      rw [← hps]
      exact h s H vvs vals e0 Un.refl rfl (fun _ _ z => z) b2 (by rw [b2.length, lv, hps]; rfl) ⟨R, b3, Nx.refl sR bR oR⟩
    · have hva' : r.sig.va = some a.arg := by rw [← a7, hva]; rfl
      have hps : r.sig.ps = r.sig.pk ++ [a.arg] := by unfold Sig.ps; rw [hva']; rfl
      obtain ⟨d', h3, h4⟩ := l2 _ _ (plan_va PF hva')
      obtain ⟨rfl, hz⟩ := h4
      have els : ls = ls.take r.sig.pk.length ++ [.tup (ds.drop r.sig.pos.length)] := by
        have hl : ls.length = r.sig.pk.length + 1 := by rw [lsl, hps]; simp
        refine List.ext_getElem? fun i => ?_
        by_cases hi' : i < r.sig.pk.length
        · rw [List.getElem?_append_left (by rw [List.length_take]; omega), List.getElem?_take, if_pos hi']
        · rw [List.getElem?_append_right (by rw [List.length_take]; omega), List.length_take, Nat.min_eq_left hpk]
          by_cases he : i = r.sig.pk.length
          · subst he; rw [h3, Nat.sub_self]; rfl
          · rw [List.getElem?_eq_none (by omega), List.getElem?_eq_none (by simp; omega)]
      have hu : (us.drop r.sig.pos.length).length ≤ sizeLine := by
        rw [List.length_drop] at hz ⊢
        rw [← rv.length, rd.length]; exact hz
      have hdv : Vals (vs.drop r.sig.pos.length) (us.drop r.sig.pos.length) := rv.drop _
      have hn' : H s.heap.objs.size = Option.none := e0.hok.fresh (Nat.le_refl _)
      refine wpAny_newTuple ?_ hu
      have new : ObjOk Pg w (upd H s.heap.objs.size (.tup (vs.drop r.sig.pos.length))) (s.heap.push ({ cls := .type "tuple", data := .seq (us.drop r.sig.pos.length).toArray } : Obj)) s.heap.objs.size (.tup (vs.drop r.sig.pos.length)) :=
        ⟨by rw [hdv.length]; exact hu, us.drop r.sig.pos.length, hdv, ⟨_, Heap.get?_push_size _ rfl, rfl, _, rfl⟩⟩
      have un := StX.un_laid (fs := frs outer) (s := s) (o := ({ cls := .type "tuple", data := .seq (us.drop r.sig.pos.length).toArray } : Obj)) (u := .tup (vs.drop r.sig.pos.length)) hn'
      have nx := Nx.new (T := P.tb hi K B) sR bR oR hn' (.tup (vs.drop r.sig.pos.length))
      have z := h _ _ (vvs ++ [V.ref s.heap.objs.size]) (vals ++ [Value.ref s.heap.objs.size]) (StX.env0_laid e0 new) un rfl (fun e s' => StX.cxUp outer s H _ _ E e s' un (fun b o q => Heap.get?_push_of_some _ q) rfl) (b2.append (.cons rfl .nil))
        (by rw [List.length_append, b2.length, lv, hps, List.length_append]; rfl) ⟨_, by
          rw [els]
          refine (b3.mono nx.r).append (.cons (.tup (SqT.of upd_same) ((rd.drop _).mono nx.r)) .nil), nx⟩
      rw [hps, List.zip_append (by rw [lv])] at z
      exact z
  · obtain ⟨R2, r2, n2⟩ := g
    exact ⟨_, pss_wpt _, hbody B cdv A outer s2 H2 xs ls μ R2 Xx W Q E hr' r2 n2.s n2.b n2.o lsl hb (fun v d μ' R' H' n r hw => t _ _ _ _ _ (n2.trans n) r hw) fun c fs μ' R' H' dx vs nx h1 h2 h3 => tx c fs μ' R' H' dx vs (n2.trans nx) h1 h2 h3⟩
theorem row_ok {f : Nat} {r : Row} (hr : P.rows[f]? = some r) (F : RowF K r) (hok : r.ok P = true) (G : SgOk P hi Γ k Pg w K mg base) :
    CallOk P hi Pg w K mg base (k + 2) f (fun ds μ ex W => ds.length = r.sig.ps.length ∧ wB Γ r.N.length r.body ds μ ex W) := by
  simp only [Row.ok, Bool.and_eq_true] at hok
  obtain ⟨⟨ha, hs⟩, hc⟩ := hok
  have S := scope_by hs
  refine row_gen (k := k + 1) hr F (by rw [ha, hs]; rfl) fun B cdv A outer s H xs ls μ R Xx W Q E hr' rd sR bR oR hl hb t tx => ?_
  have SX : StX P hi { Γ with ex := Xx } k r.N (defScope r.st) (defScope r.st) (cxOf (L2.CX Pg w) Pg w K mg base r.N r.qual (defScope r.st) (He.fAd K r.at_) cdv A outer s H E) B μ R H :=
    ⟨rfl, rfl, S.kind, S.nd, rfl, hr', fun x l => ⟨l, .inl rfl⟩, ⟨G.fn, G.fa, G.nc⟩, fun cls d _ H => E cls d H, takes_of rfl rfl rfl rfl, fun σ => tx⟩
  refine sSs (Γ := { Γ with ex := Xx }) r.body (defScope r.st) (defBody r.st) hc _ B μ R H SX (passes_of (X := cxOf (L2.CX Pg w) Pg w K mg base r.N r.qual (defScope r.st) (He.fAd K r.at_) cdv A outer s H E) (K := fun e s'' => L2.CX Pg w outer H s E e s'') (E₁ := fun e s'' => L2.CX Pg w outer H s E e s'') rfl) μ R H _ (start0 r.N.length ls) _ _ (start_ok sR bR oR rd) hb.2 ⟨?_, ?_, ?_, ?_⟩
  · exact fun σ ρ μ' R' H' _ o hw => t _ _ _ _ _ o.ext .non hw
  · exact fun σ ρ μ' R' H' _ o hw => hw.elim
  · exact fun σ ρ μ' R' H' _ o hw => hw.elim
  · exact fun v d μ' R' H' n r hw => t _ _ _ _ _ n r hw
theorem CallOk.mono {j : Nat} {f : Nat} {p : Prm} (C : CallOk P hi Pg w K mg base j f p) (h : j ≤ k) : CallOk P hi Pg w K mg base k f p := by
  obtain ⟨r, hr, C⟩ := C
  exact ⟨r, hr, fun B A outer s H us vs ks ws zs ds es n star pl μ R X W Q E hR => C B A outer s H us vs ks ws zs ds es n star pl μ R X W Q E (hR.mono h)⟩
/-- ALL DEFS of the table keep their promises, at each depth of calls -/
theorem sg_all {hand : Nat → Option Prm} (Fa : Facts P K mg) (rows : ∀ (f : Nat) (r : Row), P.rows[f]? = some r → hand f = none → RowF K r ∧ r.ok P = true) (hh : ∀ f p, hand f = some p → CallOk P hi Pg w K mg base 2 f p) :
    ∀ n, SgOk P hi (G P hand n) (2 * n) Pg w K mg base
  | 0 => ⟨fun f p h => (nomatch (show (none : Option Prm) = some p from h)), Fa, rfl⟩
  | n + 1 => by
    have ih := sg_all Fa rows hh n
    refine ⟨fun f p h => ?_, Fa, rfl⟩
    have h : (match hand f with
      | some p => some p
      | none => (P.rows[f]?).map fun r => fun ds μ ex W => ds.length = r.sig.ps.length ∧ wB (G P hand n) r.N.length r.body ds μ ex W) = some p := h
    cases e : hand f with
    | some p' =>
      simp only [e, Option.some.injEq] at h
      subst h
      exact (hh f p' e).mono (by omega)
    | none =>
      simp only [e] at h
      cases e2 : P.rows[f]? with
      | none => simp only [e2, Option.map_none] at h; cases h
      | some r =>
        simp only [e2, Option.map_some, Option.some.injEq] at h
        subst h
        obtain ⟨F, hok⟩ := rows f r e2 e
        exact row_ok e2 F hok ih
end
end MP
set_option maxHeartbeats 4000000
/-! MP: what is looked up once in what the module's top leaves; the facts out of it. -/
namespace MP
open PySem PySem.Spec PyProof.Rows L2
def Dc.dv : Dc → He.Dv
  | .non => .non | .bl b => .bl b | .int i => .int i | .str x => .str x | .strs _ => .non
theorem Dc.dv_v (K : PySem.W.Frag) (d : Dc) : He.Dv.v K d.dv = d.v := by cases d <;> rfl
def Row.dd (r : Row) : He.DefD := { at_ := r.at_, name := r.name, qual := r.qual, params := defArgs r.st, body := defBody r.st, scope := defScope r.st, dfl := r.sig.dfl.map Dc.dv, kwd := r.sig.kwd.map fun q => (q.1, q.2.dv) }
def anN (P : Prog) (m : Nat) : Str := (P.an[m]?).getD Str.empty
def Ty.all : List Ty := [.int, .bool, .str, .list, .tuple, .dict]
/-- one class -/
def clsOk (P : Prog) (K : PySem.W.Frag) (c : Nat) : Bool :=
  let x := clsName P c
  let C := He.ga K x
  (clsB K C && isoB K C) && (tyNs.all fun t => decide (PySem.W.kitOne K (.type t) (.ref C) = some false)) &&
    ((List.range P.cls.length).all fun c' => decide (PySem.W.kitOne K (.ref C) (.ref (He.ga K (clsName P c'))) = some (decide (c = c'))) && (decide (c = c') || !decide (C = He.ga K (clsName P c')))) &&
    (Ty.all.all fun t => decide (PySem.W.kitOne K (.ref C) (.type t.name) = some false)) && PySem.W.selfFirst K C && (He.Fa.mkr x).ok K && (He.Fa.glo x).ok K &&
    (match P.cls[c]? with
      | some r => (r.meths.all fun q => (He.Fa.meth x (anN P q.1)).ok K && PySem.W.fnIn K (He.ma K C (anN P q.1))) && r.flds.all fun f => (He.Fa.noat x (anN P f)).ok K
      | none => true)
def gcOk (K : PySem.W.Frag) (q : Str × Dc) : Bool := match q.2 with
  | .int i => (He.Fa.int q.1 i).ok K
  | .str z => (He.Fa.str q.1 z).ok K
  | .strs l => (He.Fa.glo q.1).ok K && He.tupB K q.1 (l.map He.Dv.str)
  | _ => false
def rowB (K : PySem.W.Frag) (r : Row) : Bool := match r.at_.2 with
  | none => (He.Fa.glo r.at_.1).ok K
  | some _ => true
def progOk (P : Prog) (K : PySem.W.Frag) : Bool := ((List.range P.cls.length).all (clsOk P K)) && (blN.all fun x => (He.Fa.free x).ok K) && P.consts.all (gcOk K) && P.rows.all (rowB K)
abbrev Seen : Type := Bool × List He.FnW
/-- what is looked up: a test, the texts of defs -/
def seen (chk : PySem.W.Frag → Bool) (fn : List He.DefD) (K : PySem.W.Frag) : Seen := ⟨chk K && fn.all (He.DefD.ok K), fn.map (He.fnW K ∘ He.DefD.at_)⟩
def due (fn : List He.DefD) : Seen := ⟨true, fn.map He.DefD.val⟩
def lookM (n : Nat) (chk : PySem.W.Frag → Bool) (fn : List He.DefD) (g : Addr → Option Obj) : Seen := seen chk fn (He.frG g (He.asD g n))
def hookM (n : Nat) (chk : PySem.W.Frag → Bool) (fn : List He.DefD) : PySem.W.Hook :=
  { α := Seen, obs := fun s => lookM n chk fn s.heap.get?, val := fun _ => due fn, says := fun _ h => ∃ K : PySem.W.Frag, K.In h ∧ seen chk fn K = due fn,
    of := fun _ _ e => ⟨_, He.frG_in, e⟩, keeps := fun _ _ _ x k => x.imp fun _ y => ⟨y.1.keeps k, y.2⟩ }
theorem look_eq {n : Nat} {chk : PySem.W.Frag → Bool} {fn : List He.DefD} {g : Addr → Option Obj} {s : Shared} (h : ∀ a, g a = s.heap.get? a) : lookM n chk fn g = (hookM n chk fn).obs s := by
  rw [show g = s.heap.get? from funext h]; rfl
section
variable {K : PySem.W.Frag} {chk : PySem.W.Frag → Bool} {fn : List He.DefD}
theorem seen_chk (h : seen chk fn K = due fn) : chk K = true := (Bool.and_eq_true_iff.mp (show (chk K && fn.all (He.DefD.ok K)) = true from congrArg Prod.fst h)).1
theorem seen_def (h : seen chk fn K = due fn) {i : Nat} {d : He.DefD} (hi : fn[i]? = some d) : ∃ fd, FunD K d.name d.qual d.params d.body d.scope (d.dvs K) (d.kws K) (He.fAd K d.at_) fd := by
  have h1 := (Bool.and_eq_true_iff.mp (show (chk K && fn.all (He.DefD.ok K)) = true from congrArg Prod.fst h)).2
  have h2 := congrArg (fun l : List He.FnW => l[i]?) (show fn.map (He.fnW K ∘ He.DefD.at_) = fn.map He.DefD.val from congrArg Prod.snd h)
  simp only [List.getElem?_map, hi, Option.map_some, Option.some.injEq] at h2
  exact He.DefD.funD h2 (List.all_eq_true.mp h1 d (List.mem_of_getElem? hi))
end
section
variable {P : Prog} {K : PySem.W.Frag} {h : Heap} {mg : Str → Option Value}
theorem rowF_of {r : Row} {fd : FuncData} (F : FunD K r.dd.name r.dd.qual r.dd.params r.dd.body r.dd.scope (r.dd.dvs K) (r.dd.kws K) (He.fAd K r.dd.at_) fd) : RowF K r := by
  refine ⟨fd, ?_⟩
  have e1 : r.dd.dvs K = r.dvs := by simp [He.DefD.dvs, Row.dd, Row.dvs, Dc.dv_v, Function.comp_def]
  have e2 : r.dd.kws K = r.kws := by simp [He.DefD.kws, Row.dd, Row.kws, Dc.dv_v, Function.comp_def]
  rw [e1, e2] at F
  exact F
theorem prc_of (c : progOk P K = true) : PrC P K := by
  simp only [progOk, Bool.and_eq_true, List.all_eq_true, List.mem_range] at c
  obtain ⟨⟨⟨c, _⟩, _⟩, _⟩ := c
  have d : ∀ i, i < P.cls.length → _ := fun i hi => (by
    have q := c i hi
    simp only [clsOk, Bool.and_eq_true, List.all_eq_true, List.mem_range, decide_eq_true_eq, Bool.or_eq_true, Bool.not_eq_true', decide_eq_false_iff_not] at q
    exact q : _)
  have mem : ∀ t : Ty, t ∈ Ty.all := fun t => by cases t <;> simp [Ty.all]
  refine ⟨fun i hi => ?_, fun i t hi ht => ?_, fun i j hi hj => ?_, fun i t hi => ?_, fun i j hi hj e => ?_, fun i r m f hr hm => ?_, fun i r m f hr hm => ?_, fun i hi => ?_, fun i hi => ?_, fun i r f hr hf => ?_⟩
  · obtain ⟨⟨⟨⟨⟨⟨⟨q, _⟩, _⟩, _⟩, _⟩, _⟩, _⟩, _⟩ := d i hi
    exact cls_ok (by rw [Bool.and_eq_true]; exact q)
  · exact (d i hi).1.1.1.1.1.1.2 t ht
  · exact ((d i hi).1.1.1.1.1.2 j hj).1
  · exact (d i hi).1.1.1.1.2 t (mem t)
  · rcases ((d i hi).1.1.1.1.1.2 j hj).2 with q | q
    · exact q
    · exact absurd e q
  · have hi := (List.getElem?_eq_some_iff.mp hr).1
    have q := (d i hi).2
    simp only [hr, Bool.and_eq_true, List.all_eq_true] at q
    exact He.meth_ok (q.1 _ hm).1
  · have hi := (List.getElem?_eq_some_iff.mp hr).1
    have q := (d i hi).2
    simp only [hr, Bool.and_eq_true, List.all_eq_true] at q
    exact (q.1 _ hm).2
  · exact (d i hi).1.1.1.2
  · exact He.mkr_ok (d i hi).1.1.2
  · have hi := (List.getElem?_eq_some_iff.mp hr).1
    have q := (d i hi).2
    simp only [hr, Bool.and_eq_true, List.all_eq_true] at q
    exact He.noat_ok (q.2 _ hf)
theorem facts_of (X : K.In h) (G : h.Ns mainGlobals mg) (c : progOk P K = true) (kp : ∀ (f : Nat) (r : Row), P.rows[f]? = some r → RowF K r) : Facts P K mg := by
  have pc := prc_of c
  have c0 := c
  simp only [progOk, Bool.and_eq_true, List.all_eq_true, List.mem_range] at c
  obtain ⟨⟨⟨c1, c2⟩, c3⟩, c4⟩ := c
  refine ⟨pc, fun x hx => He.free_ok X G (c2 x hx), fun x d hx => ?_, fun f r hr hn => ?_, fun i hi => ?_, fun f r hr => ?_⟩
  · have q := c3 _ hx
    cases d <;> simp only [gcOk] at q <;> first | (cases q; done) | skip
    · rename_i i
      obtain ⟨t, ht⟩ := He.int_ok X G q
      exact ⟨.int i, _, ht, ⟨t, rfl⟩, fun T R _ => .int i⟩
    · rename_i z
      obtain ⟨t, ht⟩ := He.str_ok X G q
      exact ⟨.str z, _, ht, ⟨t, rfl⟩, fun T R _ => .str z⟩
    · rename_i l
      rw [Bool.and_eq_true] at q
      refine ⟨.ref (He.ga K x), _, He.glo_ok X G q.1, rfl, fun T R hT => ?_⟩
      subst hT
      have z := He.tupB_ok q.2 R
      rw [List.map_map] at z
      exact .tup z (RdAll.of_strs l)
  · have q := c4 r (List.mem_of_getElem? hr)
    simp only [rowB, hn] at q
    exact He.glo_ok X G q
  · have q := c1 i hi
    simp only [clsOk, Bool.and_eq_true] at q
    exact He.glo_ok X G q.1.2
  · obtain ⟨fd, F⟩ := kp f r hr
    exact F.kp
end
end MP
set_option maxHeartbeats 4000000
/-! MP: what the terms say, by cases: the words of the plain laws. -/
namespace MP
open PySem PySem.Spec PyProof.Rows L2
section
variable {μ : Mu} {nc : Nat} {W : Po}
theorem v_int {i : Int} : vw μ (.int i) = .int i := rfl
theorem v_bl {i : Bool} : vw μ (.bl i) = .bl i := rfl
theorem v_str {i : Str} : vw μ (.str i) = .str i := rfl
theorem v_non : vw μ .non = .non := rfl
theorem v_tup {i : List D} : vw μ (.tup i) = .tup i := rfl
theorem v_lst {i : List D} : vw μ (.lst i) = .lst i := rfl
theorem v_ins {c : Nat} {i : List (Nat × D)} : vw μ (.ins c i) = .ins c i := rfl
theorem v_dct {i : List (Key × D)} : vw μ (.dct i) = .dct i := rfl
theorem v_bag : vw μ .bag = .bag := rfl
theorem v_loc {a : Addr} : vw μ (.loc a) = (μ a).getD (.loc a) := rfl
variable {Q : Bool → Prop} {P : D → Prop}
theorem t_bl {b : Bool} : truD (.bl b) Q = Q b := rfl
theorem t_non : truD .non Q = Q false := rfl
theorem t_int {i : Int} : truD (.int i) Q = Q (i != 0) := rfl
theorem t_str {y : Str} : truD (.str y) Q = (y.length ≤ sizeLine ∧ Q ((y.length : Int) != 0)) := rfl
theorem t_lst {xs : List D} : truD (.lst xs) Q = Q (!xs.isEmpty) := rfl
theorem t_tup {xs : List D} : truD (.tup xs) Q = Q (!xs.isEmpty) := rfl
theorem t_dct {xs : List (Key × D)} : truD (.dct xs) Q = Q (!xs.isEmpty) := rfl
theorem k_int {i : Int} : okT nc (.int i) = true := rfl
theorem k_bl {i : Bool} : okT nc (.bl i) = true := rfl
theorem k_str {i : Str} : okT nc (.str i) = true := rfl
theorem k_non : okT nc .non = true := rfl
theorem k_tup {i : List D} : okT nc (.tup i) = true := rfl
theorem k_lst {i : List D} : okT nc (.lst i) = true := rfl
theorem k_dct {i : List (Key × D)} : okT nc (.dct i) = true := rfl
theorem k_ins {c : Nat} {i : List (Nat × D)} : okT nc (.ins c i) = decide (c < nc) := rfl
theorem i_int {i : Int} {t : Ty} : isiD (.int i) t = decide (t = .int) := by cases t <;> rfl
theorem i_bl {i : Bool} {t : Ty} : isiD (.bl i) t = (decide (t = .bool) || decide (t = .int)) := by cases t <;> rfl
theorem i_str {i : Str} {t : Ty} : isiD (.str i) t = decide (t = .str) := by cases t <;> rfl
theorem i_lst {i : List D} {t : Ty} : isiD (.lst i) t = decide (t = .list) := by cases t <;> rfl
theorem i_tup {i : List D} {t : Ty} : isiD (.tup i) t = decide (t = .tuple) := by cases t <;> rfl
theorem i_dct {i : List (Key × D)} {t : Ty} : isiD (.dct i) t = decide (t = .dict) := by cases t <;> rfl
theorem i_non {t : Ty} : isiD .non t = false := by cases t <;> rfl
theorem i_ins {c : Nat} {i : List (Nat × D)} {t : Ty} : isiD (.ins c i) t = false := by cases t <;> rfl
theorem c_eq {x y : D} : cmpD .eq x y Q = (EqOk x y ∧ Q (eqD x y)) := rfl
theorem c_ne {x y : D} : cmpD .ne x y Q = (EqLay x y ∧ Q (!eqD x y)) := rfl
theorem c_lt {i j : Int} : cmpD .lt (.int i) (.int j) Q = Q (decide (i < j)) := rfl
theorem c_le {i j : Int} : cmpD .le (.int i) (.int j) Q = Q (decide (i ≤ j)) := rfl
theorem c_gt {i j : Int} : cmpD .gt (.int i) (.int j) Q = Q (decide (j < i)) := rfl
theorem c_ge {i j : Int} : cmpD .ge (.int i) (.int j) Q = Q (decide (j ≤ i)) := rfl
def isNon : D → Bool
  | .non => true
  | _ => false
theorem c_isN {x : D} : cmpD .isN x .non Q = Q (isNon x) := by cases x <;> rfl
theorem c_notN {x : D} : cmpD .notN x .non Q = Q (!isNon x) := by cases x <;> rfl
theorem c_inL {x : D} {ys : List D} : cmpD .in_ x (.lst ys) Q = ((flatD x = true ∧ ys.all flatD = true) ∧ Q (ys.any fun y => eqD x y)) := by cases x <;> rfl
theorem c_inT {x : D} {ys : List D} : cmpD .in_ x (.tup ys) Q = ((flatD x = true ∧ ys.all flatD = true) ∧ Q (ys.any fun y => eqD x y)) := by cases x <;> rfl
theorem c_niL {x : D} {ys : List D} : cmpD .notIn x (.lst ys) Q = ((flatD x = true ∧ ys.all flatD = true) ∧ Q (!ys.any fun y => eqD x y)) := by cases x <;> rfl
theorem c_niT {x : D} {ys : List D} : cmpD .notIn x (.tup ys) Q = ((flatD x = true ∧ ys.all flatD = true) ∧ Q (!ys.any fun y => eqD x y)) := by cases x <;> rfl
theorem n_non : isNon .non = true := rfl
theorem n_int {i : Int} : isNon (.int i) = false := rfl
theorem n_bl {i : Bool} : isNon (.bl i) = false := rfl
theorem n_str {i : Str} : isNon (.str i) = false := rfl
theorem n_lst {i : List D} : isNon (.lst i) = false := rfl
theorem n_tup {i : List D} : isNon (.tup i) = false := rfl
theorem n_dct {i : List (Key × D)} : isNon (.dct i) = false := rfl
theorem f_int {i : Int} : flatD (.int i) = true := rfl
theorem f_str {i : Str} : flatD (.str i) = true := rfl
theorem f_bl {i : Bool} : flatD (.bl i) = true := rfl
theorem f_non : flatD .non = true := rfl
theorem e_int {i j : Int} : eqD (.int i) (.int j) = (i == j) := rfl
theorem e_str {i j : Str} : eqD (.str i) (.str j) = (i == j) := rfl
theorem e_bl {i j : Bool} : eqD (.bl i) (.bl j) = (i == j) := rfl
theorem e_non : eqD .non .non = true := rfl
theorem e_lst {i j : List D} : eqD (.lst i) (.lst j) = eqDs i j := rfl
theorem e_tup {i j : List D} : eqD (.tup i) (.tup j) = eqDs i j := rfl
theorem es_nn : eqDs [] [] = true := rfl
theorem es_cc {x y : D} {xs ys : List D} : eqDs (x :: xs) (y :: ys) = (eqD x y && eqDs xs ys) := rfl
theorem es_cn {x : D} {xs : List D} : eqDs (x :: xs) [] = false := rfl
theorem es_nc {y : D} {ys : List D} : eqDs [] (y :: ys) = false := rfl
theorem ok_int {i j : Int} : EqOk (.int i) (.int j) := .inl ⟨rfl, rfl, by show min 0 0 ≤ 64; decide⟩
theorem ok_bl {i j : Bool} : EqOk (.bl i) (.bl j) := .inl ⟨rfl, rfl, by show min 0 0 ≤ 64; decide⟩
theorem ok_str {i j : Str} (h1 : PySem.PyData.strOk i = true) (h2 : PySem.PyData.strOk j = true) : EqOk (.str i) (.str j) := .inl ⟨h1, h2, by show min 0 0 ≤ 64; decide⟩
theorem la_int {i j : Int} : EqLay (.int i) (.int j) := ⟨rfl, rfl, by show min 0 0 ≤ 64; decide⟩
theorem la_bl {i j : Bool} : EqLay (.bl i) (.bl j) := ⟨rfl, rfl, by show min 0 0 ≤ 64; decide⟩
theorem b_addI {i j : Int} : binD .add (.int i) (.int j) P = P (.int (i + j)) := rfl
theorem b_addS {x y : Str} : binD .add (.str x) (.str y) P = (x.length + y.length ≤ sizeLine ∧ P (.str (x ++ y))) := rfl
theorem b_addT {xs ys : List D} : binD .add (.tup xs) (.tup ys) P = (xs.length + ys.length ≤ sizeLine ∧ P (.tup (xs ++ ys))) := rfl
theorem b_addL {xs ys : List D} : binD .add (.lst xs) (.lst ys) P = (xs.length + ys.length ≤ sizeLine ∧ P (.lst (xs ++ ys))) := rfl
theorem b_sub {i j : Int} : binD .sub (.int i) (.int j) P = P (.int (i - j)) := rfl
theorem b_mul {i j : Int} : binD .mul (.int i) (.int j) P = (CMul i j ∧ P (.int (i * j))) := rfl
theorem b_mulL {xs : List D} {k : Int} : binD .mul (.lst xs) (.int k) P = (-(2 ^ 63) ≤ k ∧ k < 2 ^ 63 ∧ xs.length * k.toNat ≤ sizeLine ∧ P (.lst (List.replicate k.toNat xs).flatten)) := rfl
theorem b_fdiv {i j : Int} : binD .fdiv (.int i) (.int j) P = ((0 < j ∧ j.natAbs.log2 < 9000) ∧ P (.int (i / j))) := rfl
theorem b_mod {i j : Int} : binD .mod (.int i) (.int j) P = (0 < j ∧ P (.int (i % j))) := rfl
theorem b_pow {i j : Int} : binD .pow (.int i) (.int j) P = (CPow i j ∧ P (.int (i ^ j.toNat))) := rfl
theorem f_lenL {xs : List D} : bD .len [.lst xs] P = P (.int xs.length) := rfl
theorem f_lenT {xs : List D} : bD .len [.tup xs] P = P (.int xs.length) := rfl
theorem f_lenD {xs : List (Key × D)} : bD .len [.dct xs] P = P (.int xs.length) := rfl
theorem f_lenS {x : Str} : bD .len [.str x] P = (x.length ≤ sizeLine ∧ P (.int x.length)) := rfl
theorem f_tupL {xs : List D} : bD .tuple [.lst xs] P = P (.tup xs) := rfl
theorem f_tupT {xs : List D} : bD .tuple [.tup xs] P = P (.tup xs) := rfl
theorem f_lstL {xs : List D} : bD .list [.lst xs] P = P (.lst xs) := rfl
theorem f_lstT {xs : List D} : bD .list [.tup xs] P = P (.lst xs) := rfl
theorem f_intI {i : Int} : bD .int [.int i] P = P (.int i) := rfl
theorem f_absI {i : Int} : bD .abs [.int i] P = P (.int (if i < 0 then -i else i)) := rfl
theorem f_max2 {i j : Int} : bD .max [.int i, .int j] P = P (.int (if j > i then j else i)) := rfl
theorem f_min2 {i j : Int} : bD .min [.int i, .int j] P = P (.int (if j < i then j else i)) := rfl
theorem ints_map : ∀ ns : List Int, intsD (ns.map D.int) = some ns
  | [] => rfl
  | n :: ns => by simp only [List.map_cons, intsD, ints_map ns, Option.map_some]
theorem bls_map : ∀ ns : List Bool, flatTs (ns.map D.bl) = some ns
  | [] => rfl
  | n :: ns => by simp only [List.map_cons, flatTs, flatT, bls_map ns]
theorem f_sum {ns : List Int} : bD .sum [.lst (ns.map D.int)] P = P (.int ns.sum) := by simp only [bD, ints_map]
theorem f_allB {ns : List Bool} : bD .all [.lst (ns.map D.bl)] P = P (.bl (ns.all id)) := by simp only [bD, bls_map]
theorem f_anyB {ns : List Bool} : bD .any [.lst (ns.map D.bl)] P = P (.bl (ns.any id)) := by simp only [bD, bls_map]
theorem f_sorted {ns : List Int} : bD .sorted [.lst (ns.map D.int)] P = ∀ ns' : List Int, ns'.Perm ns → ns'.Pairwise (· ≤ ·) → P (.lst (ns'.map .int)) := by simp only [bD, ints_map]
theorem f_strI {i : Int} : bD .str [.int i] P = (i.natAbs.log2 < 1920 ∧ P (.str (toString i))) := rfl
theorem in_ins {c c' : Nat} {fs : List (Nat × D)} : insP c (.ins c' fs) = (c' = c) := rfl
theorem sq_tup {xs : List D} {Q : List D → Prop} : seqP (.tup xs) Q = Q xs := rfl
theorem sq_lst {xs : List D} {Q : List D → Prop} : seqP (.lst xs) Q = Q xs := rfl
def fromO {α : Type} : Option α → (α → Prop) → Prop
  | some d, Q => Q d
  | none, _ => False
theorem s_lst {xs : List D} {i : Int} : subD (.lst xs) (.int i) P = fromO (atI xs i) P := by unfold subD; cases h : atI xs i <;> simp only [h, fromO]
theorem s_tup {xs : List D} {i : Int} : subD (.tup xs) (.int i) P = fromO (atI xs i) P := by unfold subD; cases h : atI xs i <;> simp only [h, fromO]
theorem o_some {α : Type} {d : α} {Q : α → Prop} : fromO (some d) Q = Q d := rfl
theorem at0 {α : Type} {a : α} {l : List α} : atI (a :: l) 0 = some a := atI_nat (j := 0) rfl
theorem at1 {α : Type} {a b : α} {l : List α} : atI (a :: b :: l) 1 = some b := atI_nat (j := 1) rfl
theorem at2 {α : Type} {a b c : α} {l : List α} : atI (a :: b :: c :: l) 2 = some c := atI_nat (j := 2) rfl
theorem at_nat {α : Type} {l : List α} {i : Nat} {x : α} (h : l[i]? = some x) : atI l (i : Int) = some x := atI_nat h
theorem at_last {α : Type} {l : List α} {x : α} : atI (l ++ [x]) (-1) = some x := atI_last l x
theorem slD_lst {xs : List D} {lo hi : Option Int} : slD (.lst xs) lo hi P = P (.lst (cutD xs lo hi)) := rfl
theorem slD_tup {xs : List D} {lo hi : Option Int} : slD (.tup xs) lo hi P = P (.tup (cutD xs lo hi)) := rfl
theorem ix_nat {n j : Nat} (hj : j < n) : ixN n (j : Int) = some j := by
  unfold ixN
  rw [if_pos (by omega), if_pos (by omega)]
  simp
theorem bs_pop {a : Addr} {xs : List D} {j : Nat} {y : D} {μ : Mu} {Q : Po} (h : xs[j]? = some y) (hl : xs.length ≤ 1000000) (q : Q y (μ.set a (.lst (xs.eraseIdx j)))) : bsD .pop a xs [.int (j : Nat)] μ Q := by
  have hj := (List.getElem?_eq_some_iff.mp h).1
  show (-(2 ^ 63) ≤ (j : Int) ∧ (j : Int) < 2 ^ 63) ∧ _
  refine ⟨⟨by omega, by omega⟩, ?_⟩
  rw [ix_nat hj]
  simp only [h]
  exact q
theorem bs_app {a : Addr} {xs : List D} {d : D} {μ : Mu} {Q : Po} : bsD .append a xs [d] μ Q = (xs.length < sizeLine ∧ Q .non (μ.set a (.lst (xs ++ [d])))) := rfl
/-- an `iteP` of two truth values -/
theorem ite_bl {c : Bool} {A : D → Prop} {x y : Bool} (h : A (.bl (if c then x else y))) : iteP c (A (.bl x)) (A (.bl y)) := by cases c <;> exact h
/-- a comprehension without a test whose parts each give a known value -/
theorem lc_map {bind : D → (List Sl → Prop) → Prop} {elt : List Sl → Mu → Po → Prop} {f : D → D} : ∀ {xs acc : List D} {μ : Mu} {Q : List D → Mu → Prop},
    (∀ x, x ∈ xs → ∀ (W : Po), W (f x) μ → bind x fun ρ1 => elt ρ1 μ W) → Q (acc ++ xs.map f) μ → lcD bind (fun ρ μ k => k true μ) elt xs acc μ Q
  | [], acc, μ, Q, _, h => by
    unfold lcD
    simpa using h
  | x :: xs, acc, μ, Q, hx, h => by
    unfold lcD
    exact hx x List.mem_cons_self _ (lc_map (fun y hy => hx y (List.mem_cons_of_mem _ hy)) (by simpa using h))
theorem lc_mapA {α : Type} {bind : D → (List Sl → Prop) → Prop} {elt : List Sl → Mu → Po → Prop} {g f : α → D} : ∀ {xs : List α} {acc : List D} {μ : Mu} {Q : List D → Mu → Prop},
    (∀ x, x ∈ xs → ∀ (W : Po), W (f x) μ → bind (g x) fun ρ1 => elt ρ1 μ W) → Q (acc ++ xs.map f) μ → lcD bind (fun ρ μ k => k true μ) elt (xs.map g) acc μ Q
  | [], acc, μ, Q, _, h => by
    unfold lcD
    simpa using h
  | x :: xs, acc, μ, Q, hx, h => by
    show lcD bind _ elt (g x :: xs.map g) acc μ Q
    unfold lcD
    exact hx x List.mem_cons_self _ (lc_mapA (fun y hy => hx y (List.mem_cons_of_mem _ hy)) (by simpa using h))
theorem mem_enum {xs : List D} {x : D} (h : x ∈ enumD xs) : ∃ (i : Nat) (y : D), x = .tup [.int i, y] ∧ i < xs.length ∧ y ∈ xs := by
  unfold enumD at h
  obtain ⟨i, hi, e⟩ := List.mem_iff_getElem.mp h
  rw [List.getElem_zipWith] at e
  simp only [List.length_zipWith, List.length_range] at hi
  exact ⟨i, xs[i]'(by omega), by rw [← e]; simp, by omega, List.getElem_mem _⟩
theorem mem_rng {lo : Int} {n : Nat} {x : D} (h : x ∈ rngD lo n) : ∃ i : Nat, x = .int (lo + i) ∧ i < n := by
  unfold rngD at h
  obtain ⟨i, hi, rfl⟩ := List.mem_map.mp h
  exact ⟨i, rfl, by simpa using hi⟩
/-- a loop that keeps I -/
theorem for_keep {bind : D → List Sl → (List Sl → Prop) → Prop} {body : Kt → List Sl → Mu → Prop} {k : Kt} {I : List Sl → Mu → Prop} : ∀ {xs : List D} {ρ : List Sl} {μ : Mu}, I ρ μ → (∀ x, x ∈ xs → ∀ ρ μ (kt : Kt), I ρ μ → kt.rt = k.rt → kt.bk = k.nx → (∀ ρ' μ', I ρ' μ' → kt.nx ρ' μ' ∧ kt.ct ρ' μ') → bind x ρ fun ρ1 => body kt ρ1 μ) →
    (∀ ρ μ, I ρ μ → k.nx ρ μ) → forD bind body k xs ρ μ
  | [], ρ, μ, h, _, e => by
    unfold forD
    exact e ρ μ h
  | x :: xs, ρ, μ, h, hx, e => by
    unfold forD
    exact hx x List.mem_cons_self ρ μ _ h rfl rfl fun ρ' μ' h' => ⟨for_keep h' (fun y hy => hx y (List.mem_cons_of_mem _ hy)) e, for_keep h' (fun y hy => hx y (List.mem_cons_of_mem _ hy)) e⟩
/-- a loop told by its steps: what holds before the i-th turn -/
theorem for_ix {bind : D → List Sl → (List Sl → Prop) → Prop} {body : Kt → List Sl → Mu → Prop} {k : Kt} {xs : List D} {I : Nat → List Sl → Mu → Prop} (hs : ∀ i x, xs[i]? = some x → ∀ ρ μ (kt : Kt), I i ρ μ → kt.rt = k.rt → kt.bk = k.nx → (∀ ρ' μ', I (i + 1) ρ' μ' → kt.nx ρ' μ' ∧ kt.ct ρ' μ') → bind x ρ fun ρ1 => body kt ρ1 μ)
    (e : ∀ ρ μ, I xs.length ρ μ → k.nx ρ μ) : ∀ {i : Nat} {ρ : List Sl} {μ : Mu}, i ≤ xs.length → I i ρ μ → forD bind body k (xs.drop i) ρ μ := by
  intro i
  generalize hm : xs.length - i = m
  induction m generalizing i with
  | zero =>
    intro ρ μ hi h
    have : i = xs.length := by omega
    subst this
    rw [List.drop_length]
    unfold forD
    exact e ρ μ h
  | succ m ih =>
    intro ρ μ hi h
    have hlt : i < xs.length := by omega
    rw [List.drop_eq_getElem_cons hlt]
    unfold forD
    exact hs i _ (List.getElem?_eq_getElem hlt) ρ μ _ h rfl rfl fun ρ' μ' h' => ⟨ih (by omega) (by omega) h', ih (by omega) (by omega) h'⟩
theorem for_ix0 {bind : D → List Sl → (List Sl → Prop) → Prop} {body : Kt → List Sl → Mu → Prop} {k : Kt} {xs : List D} (I : Nat → List Sl → Mu → Prop) {ρ : List Sl} {μ : Mu} (h0 : I 0 ρ μ) (hs : ∀ i x, xs[i]? = some x → ∀ ρ μ (kt : Kt), I i ρ μ → kt.rt = k.rt → kt.bk = k.nx → (∀ ρ' μ', I (i + 1) ρ' μ' → kt.nx ρ' μ' ∧ kt.ct ρ' μ') → bind x ρ fun ρ1 => body kt ρ1 μ)
    (e : ∀ ρ μ, I xs.length ρ μ → k.nx ρ μ) : forD bind body k xs ρ μ := for_ix (i := 0) hs e (Nat.zero_le _) h0
end
end MP
set_option maxHeartbeats 4000000
namespace K42
open PySem PySem.Spec PyProof.Rows L2 MP
def topS (i : Nat) : Stmt := PySem.Challenge.pw_onekink_k42_prices_that_cost_the_same.main.body.getD i (.Pass ⟨0, 0, 0, 0⟩)
def inS (i j : Nat) : Stmt := match topS i with
  | .ClassDef _ _ _ body _ _ _ _ _ _ _ => body.getD j (.Pass ⟨0, 0, 0, 0⟩)
  | _ => .Pass ⟨0, 0, 0, 0⟩
abbrev lawIx : Nat := 26
def loose : List Str := ["_wall", "PlanError", "InvalidNumber", "InvalidKink", "InvalidWall", "TooMany", "is_number", "is_integer", "SIDES", "MOST_KINKS", "FARTHEST", "is_kink", "kink_cost", "Price", "_law_draws", "_law_pull", "_law_any", "_law_mixed", "_law_like", "_law_kink_cost", "_law_some_kinks", "_law_price"]
abbrev s_is_number : Stmt := topS 8
abbrev n_is_number : List Str := ["value", "least", "most"]
def b_is_number : CSs := (.cons (.ret (.bop true (.isi (.var 0) .int) (.bop true (.not (.isi (.var 0) .bool)) (.chain .le .le (.var 1) (.var 0) (.var 2))))) .nil)
def r_is_number : MP.Row := { at_ := ("is_number", none), qual := "is_number", st := s_is_number, N := n_is_number, sig := { pos := ["value", "least", "most"] }, body := b_is_number }
abbrev s_is_integer : Stmt := topS 9
abbrev n_is_integer : List Str := ["value"]
def b_is_integer : CSs := (.cons (.ret (.bop true (.isi (.var 0) .int) (.not (.isi (.var 0) .bool)))) .nil)
def r_is_integer : MP.Row := { at_ := ("is_integer", none), qual := "is_integer", st := s_is_integer, N := n_is_integer, sig := { pos := ["value"] }, body := b_is_integer }
abbrev s_is_kink : Stmt := topS 14
abbrev n_is_kink : List Str := ["value"]
def b_is_kink : CSs := (.cons (.ite (.bop false (.not (.isi (.var 0) .tuple)) (.bop false (.cmp .ne (.bcall .len (.cons (.var 0) .nil)) (.int 3)) (.bop false (.not (.isi (.sub (.var 0) (.int 0)) .str)) (.cmp .notIn (.sub (.var 0) (.int 0)) (.gc "SIDES" (.strs ["above", "below"])))))) (.cons (.ret (.bl false)) .nil) .nil) (.cons (.ret (.bop true (.call 0 (.cons (.sub (.var 0) (.int 1)) (.cons (.neg (.gc "FARTHEST" (.int 99))) (.cons (.gc "FARTHEST" (.int 99)) .nil))) [] .nil [.pos 0, .pos 1, .pos 2]) (.call 0 (.cons (.sub (.var 0) (.int 2)) (.cons (.int 1) (.cons (.gc "FARTHEST" (.int 99)) .nil))) [] .nil [.pos 0, .pos 1, .pos 2]))) .nil))
def r_is_kink : MP.Row := { at_ := ("is_kink", none), qual := "is_kink", st := s_is_kink, N := n_is_kink, sig := { pos := ["value"] }, body := b_is_kink }
abbrev s_kink_cost : Stmt := topS 15
abbrev n_kink_cost : List Str := ["kink", "number", "side", "place", "weight"]
def b_kink_cost : CSs := (.cons (.setT [2, 3, 4] (.var 0)) (.cons (.ret (.bin .mul (.var 4) (.bcall .max (.cons (.int 0) (.cons (.ife (.cmp .eq (.var 2) (.str "above")) (.bin .sub (.var 1) (.var 3)) (.bin .sub (.var 3) (.var 1))) .nil))))) .nil))
def r_kink_cost : MP.Row := { at_ := ("kink_cost", none), qual := "kink_cost", st := s_kink_cost, N := n_kink_cost, sig := { pos := ["kink", "number"] }, body := b_kink_cost }
abbrev s_Price_init : Stmt := inS 16 1
abbrev n_Price_init : List Str := ["self", "kinks", "at", "kink"]
def b_Price_init : CSs := (.cons (.for_ (.tup [2, 3]) (.enum (.var 1)) (.cons (.ite (.bop false (.cmp .ge (.var 2) (.gc "MOST_KINKS" (.int 8))) (.not (.call 2 (.cons (.var 3) .nil) [] .nil [.pos 0]))) (.cons .never .nil) .nil) .nil)) (.cons (.attr (.var 0) 0 (.var 1)) .nil))
def r_Price_init : MP.Row := { at_ := ("Price", some "__init__"), qual := "Price.__init__", st := s_Price_init, N := n_Price_init, sig := { pos := ["self"], va := some "kinks" }, body := b_Price_init }
abbrev s_Price_call : Stmt := inS 16 3
abbrev n_Price_call : List Str := ["self", "number", "kink"]
def b_Price_call : CSs := (.cons (.ite (.not (.call 1 (.cons (.var 1) .nil) [] .nil [.pos 0])) (.cons .never .nil) .nil) (.cons (.ret (.bcall .sum (.cons (.lc (.one 2) (.seq (.attr (.var 0) 0)) .none (.call 3 (.cons (.var 2) (.cons (.var 1) .nil)) [] .nil [.pos 0, .pos 1]) [("kink", 2)]) .nil))) .nil))
def r_Price_call : MP.Row := { at_ := ("Price", some "__call__"), qual := "Price.__call__", st := s_Price_call, N := n_Price_call, sig := { pos := ["self", "number"] }, body := b_Price_call }
abbrev s_Price_alike : Stmt := inS 16 9
abbrev n_Price_alike : List Str := ["self", "other", "spots", "ends", "spot", "side", "place", "weight"]
def b_Price_alike : CSs := (.cons (.set 2 (.bcall .sorted (.cons (.bin .add (.lc (.tup [5, 6, 7]) (.seq (.bin .add (.attr (.var 0) 0) (.meth 0 1 7 (.var 1) .nil [] .nil [.pos 0]))) .none (.var 6) [("side", 5), ("place", 6), ("weight", 7)]) (.lst false (.cons (.int 0) .nil))) .nil))) (.cons (.set 3 (.bin .add (.bin .add (.lst false (.cons (.bin .sub (.sub (.var 2) (.int 0)) (.int 1)) .nil)) (.var 2)) (.lst false (.cons (.bin .add (.sub (.var 2) (.neg (.int 1))) (.int 1)) .nil)))) (.cons (.ret (.bcall .all (.cons (.lc (.one 4) (.seq (.var 3)) .none (.cmp .eq (.opc 0 2 5 (.var 0) (.cons (.var 4) .nil) [.pos 0, .pos 1]) (.opc 0 2 5 (.var 1) (.cons (.var 4) .nil) [.pos 0, .pos 1])) [("spot", 4)]) .nil))) .nil)))
def r_Price_alike : MP.Row := { at_ := ("Price", some "alike"), qual := "Price.alike", st := s_Price_alike, N := n_Price_alike, sig := { pos := ["self", "other"] }, body := b_Price_alike }
abbrev s_Price_plain : Stmt := inS 16 10
abbrev n_Price_plain : List Str := ["self"]
def b_Price_plain : CSs := (.cons (.ret (.attr (.var 0) 0)) .nil)
def r_Price_plain : MP.Row := { at_ := ("Price", some "plain"), qual := "Price.plain", st := s_Price_plain, N := n_Price_plain, sig := { pos := ["self"] }, body := b_Price_plain }
abbrev s_Price_add : Stmt := inS 16 12
abbrev n_Price_add : List Str := ["self", "other", "kinks"]
def b_Price_add : CSs := (.cons (.set 2 (.bin .add (.attr (.var 0) 0) (.attr (.var 1) 0))) (.cons (.ite (.cmp .gt (.bcall .len (.cons (.var 2) .nil)) (.gc "MOST_KINKS" (.int 8))) (.cons .never .nil) .nil) (.cons (.ret (.frz (.mk 0 4 (.star (.var 2) .nil) [] .nil [.pos 0, .rest 1]))) .nil)))
def r_Price_add : MP.Row := { at_ := ("Price", some "__add__"), qual := "Price.__add__", st := s_Price_add, N := n_Price_add, sig := { pos := ["self", "other"] }, body := b_Price_add }
abbrev s_l_pull : Stmt := topS 19
abbrev n_l_pull : List Str := ["_law_bag", "_law_many", "_law_seed", "_law_cell", "_law_digit"]
def b_l_pull : CSs := .nil
def r_l_pull : MP.Row := { at_ := ("_law_pull", none), qual := "_law_pull", st := s_l_pull, N := n_l_pull, sig := { pos := ["_law_bag", "_law_many"] }, body := b_l_pull }
abbrev s_l_any : Stmt := topS 20
abbrev n_l_any : List Str := ["_law_bag", "_law_things"]
def b_l_any : CSs := (.cons (.ret (.sub (.var 1) (.call 9 (.cons (.var 0) (.cons (.bcall .len (.cons (.var 1) .nil)) .nil)) [] .nil [.pos 0, .pos 1]))) .nil)
def r_l_any : MP.Row := { at_ := ("_law_any", none), qual := "_law_any", st := s_l_any, N := n_l_any, sig := { pos := ["_law_bag", "_law_things"] }, body := b_l_any }
abbrev s_l_mixed : Stmt := topS 21
abbrev n_l_mixed : List Str := ["_law_bag", "_law_things", "_law_step", "_law_left", "_law_found"]
def b_l_mixed : CSs := (.cons (.par 3 4 (.blist (.var 1)) (.lst true .nil)) (.cons (.for_ (.one 2) (.rng1 (.bcall .len (.cons (.var 1) .nil))) (.cons (.expr (.smeth .append (.var 4) (.cons (.smeth .pop (.var 3) (.cons (.call 9 (.cons (.var 0) (.cons (.bcall .len (.cons (.var 3) .nil)) .nil)) [] .nil [.pos 0, .pos 1]) .nil)) .nil))) .nil)) (.cons (.ret (.frz (.var 4))) .nil)))
def r_l_mixed : MP.Row := { at_ := ("_law_mixed", none), qual := "_law_mixed", st := s_l_mixed, N := n_l_mixed, sig := { pos := ["_law_bag", "_law_things"] }, body := b_l_mixed }
abbrev s_l_like : Stmt := topS 22
abbrev n_l_like : List Str := ["_law_found", "_law_due", "_law_name", "_law_one", "_law_other_in"]
def b_l_like : CSs := (.cons (.ite (.isi (.var 1) .dict) (.cons (.ite (.bop false (.not (.isi (.var 0) .dict)) (.cmp .ne (.bcall .len (.cons (.var 0) .nil)) (.bcall .len (.cons (.var 1) .nil)))) (.cons (.ret (.bl false)) .nil) .nil) (.cons (.ret (.bcall .all (.cons (.lc (.one 2) (.seq (.var 1)) .none (.bop true (.cmp .in_ (.var 2) (.var 0)) (.call 12 (.cons (.sub (.var 0) (.var 2)) (.cons (.sub (.var 1) (.var 2)) .nil)) [] .nil [.pos 0, .pos 1])) [("_law_name", 2)]) .nil))) .nil)) .nil) (.cons (.ite (.isis (.var 1) [.list, .tuple]) (.cons (.ite (.bop false (.cmp .ne (.isi (.var 0) .list) (.isi (.var 1) .list)) (.cmp .ne (.isi (.var 0) .tuple) (.isi (.var 1) .tuple))) (.cons (.ret (.bl false)) .nil) .nil) (.cons (.ret (.bop true (.cmp .eq (.bcall .len (.cons (.var 0) .nil)) (.bcall .len (.cons (.var 1) .nil))) (.bcall .all (.cons (.lc (.tup [3, 4]) (.zip (.var 0) (.var 1)) .none (.call 12 (.cons (.var 3) (.cons (.var 4) .nil)) [] .nil [.pos 0, .pos 1]) [("_law_one", 3), ("_law_other_in", 4)]) .nil)))) .nil)) .nil) (.cons (.ite (.bop false (.cmp .isN (.var 1) .non) (.cmp .isN (.var 0) .non)) (.cons (.ret (.bop true (.cmp .isN (.var 1) .non) (.cmp .isN (.var 0) .non))) .nil) .nil) (.cons (.ite (.bop false (.cmp .ne (.isi (.var 0) .bool) (.isi (.var 1) .bool)) (.cmp .ne (.isi (.var 0) .int) (.isi (.var 1) .int))) (.cons (.ret (.bl false)) .nil) .nil) (.cons (.ret (.bop true (.cmp .eq (.isi (.var 0) .str) (.isi (.var 1) .str)) (.cmp .eq (.var 0) (.var 1)))) .nil)))))
def r_l_like : MP.Row := { at_ := ("_law_like", none), qual := "_law_like", st := s_l_like, N := n_l_like, sig := { pos := ["_law_found", "_law_due"] }, body := b_l_like }
abbrev s_l_kink_cost : Stmt := topS 23
abbrev n_l_kink_cost : List Str := ["_law_kink", "_law_number"]
def b_l_kink_cost : CSs := (.cons (.ret (.bin .mul (.sub (.var 0) (.int 2)) (.bcall .max (.cons (.int 0) (.cons (.ife (.cmp .eq (.sub (.var 0) (.int 0)) (.str "above")) (.bin .sub (.var 1) (.sub (.var 0) (.int 1))) (.bin .sub (.sub (.var 0) (.int 1)) (.var 1))) .nil))))) .nil)
def r_l_kink_cost : MP.Row := { at_ := ("_law_kink_cost", none), qual := "_law_kink_cost", st := s_l_kink_cost, N := n_l_kink_cost, sig := { pos := ["_law_kink", "_law_number"] }, body := b_l_kink_cost }
abbrev s_l_some_kinks : Stmt := topS 24
abbrev n_l_some_kinks : List Str := ["_law_bag", "_law_many", "_law_found", "_law_step", "_law_place"]
def b_l_some_kinks : CSs := (.cons (.set 2 (.lst true .nil)) (.cons (.for_ (.one 3) (.rng1 (.call 9 (.cons (.var 0) (.cons (.bin .add (.var 1) (.int 1)) .nil)) [] .nil [.pos 0, .pos 1])) (.cons (.set 4 (.call 10 (.cons (.var 0) (.cons (.lst false (.cons (.int 0) (.cons (.int 1) (.cons (.int 2) (.cons (.bin .sub (.int 0) (.int 1)) (.cons (.bin .sub (.int 0) (.int 2)) (.cons (.int 3) (.cons (.bin .sub (.call 9 (.cons (.var 0) (.cons (.int 199) .nil)) [] .nil [.pos 0, .pos 1]) (.int 99)) .nil)))))))) .nil)) [] .nil [.pos 0, .pos 1])) (.cons (.expr (.smeth .append (.var 2) (.cons (.tup (.cons (.call 10 (.cons (.var 0) (.cons (.lst false (.cons (.str "above") (.cons (.str "below") .nil))) .nil)) [] .nil [.pos 0, .pos 1]) (.cons (.var 4) (.cons (.call 10 (.cons (.var 0) (.cons (.lst false (.cons (.int 1) (.cons (.int 1) (.cons (.int 2) (.cons (.int 3) (.cons (.bin .add (.int 1) (.call 9 (.cons (.var 0) (.cons (.int 99) .nil)) [] .nil [.pos 0, .pos 1])) .nil)))))) .nil)) [] .nil [.pos 0, .pos 1]) .nil)))) .nil))) .nil))) (.cons (.ret (.frz (.var 2))) .nil)))
def r_l_some_kinks : MP.Row := { at_ := ("_law_some_kinks", none), qual := "_law_some_kinks", st := s_l_some_kinks, N := n_l_some_kinks, sig := { pos := ["_law_bag", "_law_many"] }, body := b_l_some_kinks }
abbrev s_l_price : Stmt := topS 25
abbrev n_l_price : List Str := ["_law_kinks", "_law_price_here", "_law_kink"]
def b_l_price : CSs := (.cons (.set 1 (.frz (.mk 0 4 .nil [] .nil [.pos 0, .rest 1]))) (.cons (.for_ (.one 2) (.seq (.var 0)) (.cons (.set 1 (.opb .add 0 3 8 (.var 1) (.frz (.mk 0 4 (.cons (.var 2) .nil) [] .nil [.pos 0, .rest 1])))) .nil)) (.cons (.ret (.var 1)) .nil)))
def r_l_price : MP.Row := { at_ := ("_law_price", none), qual := "_law_price", st := s_l_price, N := n_l_price, sig := { pos := ["_law_kinks"] }, body := b_l_price }
abbrev s_law : Stmt := topS 26
abbrev n_law : List Str := ["_law_script", "_law_bag", "_law_turn", "_law_due", "_law_one", "_law_two", "_law_rows", "_law_way", "_law_late", "_law_at", "_law_more", "_law_price_here", "_law_other_in", "_law_side", "_law_place", "_law_weight", "_law_spot", "_law_row"]
def b_law : CSs := (.cons (.for_ (.one 2) (.rng1 (.int 6)) (.cons (.setT [6, 7] (.tup (.cons (.call 14 (.cons (.var 1) (.cons (.int 6) .nil)) [] .nil [.pos 0, .pos 1]) (.cons (.call 9 (.cons (.var 1) (.cons (.int 6) .nil)) [] .nil [.pos 0, .pos 1]) .nil)))) (.cons (.setT [8, 9] (.tup (.cons (.call 11 (.cons (.var 1) (.cons (.var 6) .nil)) [] .nil [.pos 0, .pos 1]) (.cons (.call 9 (.cons (.var 1) (.cons (.bcall .max (.cons (.int 1) (.cons (.bcall .len (.cons (.var 6) .nil)) .nil))) .nil)) [] .nil [.pos 0, .pos 1]) .nil)))) (.cons (.ite (.cmp .eq (.var 7) (.int 1)) (.cons (.set 8 (.call 14 (.cons (.var 1) (.cons (.int 6) .nil)) [] .nil [.pos 0, .pos 1])) .nil) .nil) (.cons (.ite (.bop true (.cmp .gt (.var 7) (.int 1)) (.cmp .ne (.var 6) (.lst false .nil))) (.cons (.setT [13, 14, 15] (.sub (.var 8) (.var 9))) (.cons (.set 10 (.ife (.cmp .gt (.var 15) (.int 1)) (.lst false (.cons (.tup (.cons (.var 13) (.cons (.var 14) (.cons (.bin .sub (.var 15) (.int 1)) .nil)))) (.cons (.tup (.cons (.var 13) (.cons (.var 14) (.cons (.int 1) .nil)))) .nil))) (.lst false (.cons (.tup (.cons (.var 13) (.cons (.var 14) (.cons (.var 15) .nil)))) .nil)))) (.cons (.set 10 (.ife (.cmp .eq (.var 7) (.int 3)) (.lst false (.cons (.tup (.cons (.var 13) (.cons (.var 14) (.cons (.bcall .min (.cons (.int 99) (.cons (.bin .add (.var 15) (.int 1)) .nil))) .nil)))) .nil)) (.ife (.cmp .eq (.var 7) (.int 4)) (.lst false (.cons (.tup (.cons (.ife (.cmp .eq (.var 13) (.str "above")) (.str "below") (.str "above")) (.cons (.var 14) (.cons (.var 15) .nil)))) .nil)) (.var 10)))) (.cons (.set 10 (.ife (.cmp .eq (.var 7) (.int 5)) (.lst false (.cons (.tup (.cons (.var 13) (.cons (.bcall .max (.cons (.bin .sub (.int 0) (.int 99)) (.cons (.bin .sub (.var 14) (.int 1)) .nil))) (.cons (.var 15) .nil)))) .nil)) (.var 10))) (.cons (.set 8 (.bin .add (.bin .add (.slice (.var 8) .none (.some (.var 9))) (.var 10)) (.slice (.var 8) (.some (.bin .add (.var 9) (.int 1))) .none))) .nil))))) .nil) (.cons (.par 11 12 (.call 15 (.cons (.var 6) .nil) [] .nil [.pos 0]) (.call 15 (.cons (.var 8) .nil) [] .nil [.pos 0])) (.cons (.set 3 (.bcall .all (.cons (.lc (.one 16) (.rng2 (.bin .sub (.int 0) (.int 101)) (.int 102)) .none (.cmp .eq (.bcall .sum (.cons (.lc (.one 17) (.seq (.var 6)) .none (.call 13 (.cons (.var 17) (.cons (.var 16) .nil)) [] .nil [.pos 0, .pos 1]) [("_law_row", 17)]) .nil)) (.bcall .sum (.cons (.lc (.one 17) (.seq (.var 8)) .none (.call 13 (.cons (.var 17) (.cons (.var 16) .nil)) [] .nil [.pos 0, .pos 1]) [("_law_row", 17)]) .nil))) [("_law_spot", 16)]) .nil))) (.cons (.ite (.not (.call 12 (.cons (.lst false (.cons (.meth 0 4 6 (.var 11) (.cons (.var 12) .nil) [] .nil [.pos 0, .pos 1]) (.cons (.meth 0 4 6 (.var 12) .nil ["other"] (.cons (.var 11) .nil) [.pos 0, .kw 0]) (.cons (.meth 0 4 6 (.var 11) (.cons (.var 11) .nil) [] .nil [.pos 0, .pos 1]) .nil)))) (.cons (.lst false (.cons (.var 3) (.cons (.var 3) (.cons (.bl true) .nil)))) .nil)) [] .nil [.pos 0, .pos 1])) (.cons (.ret (.bl false)) .nil) .nil) .nil)))))))) (.cons (.par 4 5 (.frz (.mk 0 4 (.cons (.tup (.cons (.str "above") (.cons (.int 0) (.cons (.int 2) .nil)))) (.cons (.tup (.cons (.str "below") (.cons (.int 0) (.cons (.int 2) .nil)))) .nil)) [] .nil [.pos 0, .rest 1])) (.frz (.mk 0 4 (.cons (.tup (.cons (.str "below") (.cons (.int 0) (.cons (.int 1) .nil)))) (.cons (.tup (.cons (.str "above") (.cons (.int 0) (.cons (.int 2) .nil)))) (.cons (.tup (.cons (.str "below") (.cons (.int 0) (.cons (.int 1) .nil)))) .nil))) [] .nil [.pos 0, .rest 1]))) (.cons (.ret (.call 12 (.cons (.lst false (.cons (.meth 0 4 6 (.var 4) (.cons (.var 5) .nil) [] .nil [.pos 0, .pos 1]) (.cons (.meth 0 4 6 (.frz (.mk 0 4 .nil [] .nil [.pos 0, .rest 1])) (.cons (.frz (.mk 0 4 .nil [] .nil [.pos 0, .rest 1])) .nil) [] .nil [.pos 0, .pos 1]) (.cons (.meth 0 4 6 (.frz (.mk 0 4 (.cons (.tup (.cons (.str "above") (.cons (.int 99) (.cons (.int 1) .nil)))) .nil) [] .nil [.pos 0, .rest 1])) (.cons (.frz (.mk 0 4 .nil [] .nil [.pos 0, .rest 1])) .nil) [] .nil [.pos 0, .pos 1]) (.cons (.meth 0 4 6 (.frz (.mk 0 4 (.cons (.tup (.cons (.str "below") (.cons (.bin .sub (.int 0) (.int 99)) (.cons (.int 1) .nil)))) .nil) [] .nil [.pos 0, .rest 1])) (.cons (.frz (.mk 0 4 .nil [] .nil [.pos 0, .rest 1])) .nil) [] .nil [.pos 0, .pos 1]) .nil))))) (.cons (.lst false (.cons (.bl true) (.cons (.bl true) (.cons (.bl false) (.cons (.bl false) .nil))))) .nil)) [] .nil [.pos 0, .pos 1])) .nil)))
abbrev p_law : List Str := ["_law_script"]
theorem sc_law : FnScope n_law p_law (defScope s_law) := scope_by (by decide +kernel)
abbrev s_l_draws : Stmt := topS 18
abbrev n_l_draws : List Str := ["_law_script"]
abbrev p_l_draws : List Str := ["_law_script"]
theorem sc_l_draws : FnScope n_l_draws p_l_draws (defScope s_l_draws) := scope_by (by decide +kernel)
abbrev p_l_pull : List Str := ["_law_bag", "_law_many"]
theorem sc_l_pull : FnScope n_l_pull p_l_pull (defScope s_l_pull) := scope_by (by decide +kernel)
abbrev jPull : Nat := 9
def PP : Prog := { rows := [r_is_number, r_is_integer, r_is_kink, r_kink_cost, r_Price_init, r_Price_call, r_Price_alike, r_Price_plain, r_Price_add, r_l_pull, r_l_any, r_l_mixed, r_l_like, r_l_kink_cost, r_l_some_kinks, r_l_price], cls := [{ name := "Price", init := 4, meths := [(2, 5), (4, 6), (1, 7), (3, 8)], flds := [0] }], an := ["_kinks", "plain", "__call__", "__add__", "alike"], consts := [("SIDES", (.strs ["above", "below"])), ("FARTHEST", (.int 99)), ("MOST_KINKS", (.int 8))] }
theorem k_law : chkSs PP n_law (defScope s_law) b_law (defBody s_law).tail = true := by decide +kernel
end K42
set_option maxHeartbeats 4000000
namespace K42
open PySem PySem.Spec PyProof.Rows L2 MP
/-! ### the two helpers of the draws, walked by hand -/
abbrev bagO (L : Addr) (i c m k : Int) : HO := .lst [.ref L, .int i, .int c, .int m, .int k]
abbrev FnP (K : PySem.W.Frag) (x : Str) (st : Stmt) (f : Addr) (fd : FuncData) : Prop := FunD K x x (defArgs st) (defBody st) (defScope st) [] [] f fd
section
variable {P : Program} {w : World} {K : PySem.W.Frag} {mg : Str → Option Value} {base : Heap} {f : Addr} {cdv : Value} {A : Around} {outer : List Env} {s0 : Shared} {H0 : Hp} {E0 : XK}
abbrev XP (P : Program) (w : World) (K : PySem.W.Frag) (mg : Str → Option Value) (base : Heap) (f : Addr) (cdv : Value) (A : Around) (outer : List Env) (s0 : Shared) (H0 : Hp) (E0 : XK) : Cx := cxOf (L2.CX P w) P w K mg base n_l_pull "_law_pull" (defScope s_l_pull) f cdv A outer s0 H0 E0
theorem bset (j : Nat) {L : Addr} {i c m k v : Int} {B : Addr} {H : Hp} {l : List V} (h : [V.ref L, .int i, .int c, .int m, .int k] = l) : upd (upd H B (.lst l)) B (.lst (l.set j (.int v))) = upd H B (.lst (l.set j (.int v))) := upd_upd
/-- what stands behind the cell's part -/
theorem pull_end (hi : mg "int" = none) {H : Hp} {B L : Addr} {i c m k n : Int} {x2 x3 x4 : Option V} {D : Ends} (c0 : 0 ≤ c) (m0 : 0 ≤ m) (n0 : 0 < n) (n1 : n ≤ 1000000000000000000000000000000)
    (hD : ∀ v c' m', 0 ≤ c' → 0 ≤ m' → m' < 2147483353 → 0 ≤ v → v < n → D.rt (.int v) (upd H B (bagO L i c' m' k))) (m1 : m < 2147483353) :
    wpss (XP P w K mg base f cdv A outer s0 H0 E0) ((defBody s_l_pull).drop 2) D [some (.ref B), some (.int n), x2, x3, x4] (upd H B (bagO L i c m k)) := by
  refine of_pss (pss_cons (ps_if (pt_cmp (pc_gt (pe_ix ix_list (pv 0) pe_int fun _ _ => rfl) pe_int))
      (pss_cons (ps_set (i := 4) sc_l_pull.nd rfl (Or.inl rfl) (pe_op op_mod (pe_callTy call_int1 (by rfl) hi (by rfl) (pa_cons (pe_ix ix_list (pv 0) pe_int fun _ _ => rfl) pa_nil)) (pv 1)))
        (pss_cons (ps_asg (pe_op op_fdivW (pe_ix ix_list (pv 0) pe_int fun _ _ => rfl) (pv 1)) (pg_sub (pv 0) pe_int set_list))
          (pss_one (ps_ret (pv 4))))) pss_nil)
    (pss_cons (ps_set (i := 2) sc_l_pull.nd rfl (Or.inl rfl) (pe_ix ix_list (pv 0) pe_int fun _ _ => rfl))
    (pss_cons (ps_asg (pe_op op_mod (pe_callTy call_int1 (by rfl) hi (by rfl) (pa_cons (pe_op op_add (pe_op op_add (pe_op op_add (pe_op op_pow (pv 2) pe_int) (pe_op op_mul (pv 2) pe_int)) (pe_op op_mul (pe_ix ix_list (pv 0) pe_int fun _ _ => rfl) pe_int)) pe_int) pa_nil)) pe_int) (pg_sub (pv 0) pe_int set_list))
    (pss_one (ps_ret (pe_op op_mod (pe_callTy call_int1 (by rfl) hi (by rfl) (pa_cons (pe_op op_add (pe_op op_fdiv (pe_ix ix_list (pv 0) pe_int fun _ _ => rfl) pe_int) (pe_op op_mul (pe_op op_mod (pe_callTy call_int1 (by rfl) hi (by rfl) (pa_cons (pe_ix ix_list (pv 0) pe_int fun _ _ => rfl) pa_nil)) pe_int) pe_int)) pa_nil)) (pv 1))))))) ?_
  refine ⟨_, rfl, _, _, _, _, rfl, rfl, SqL.of upd_same, rfl, c, 0, rfl, rfl, _, rfl, ?_⟩
  by_cases hc : (0 : Int) < c
  · show ite (decide (0 < c) = true) _ _
    rw [if_pos (decide_eq_true hc)]
    refine ⟨_, rfl, _, _, _, _, rfl, rfl, SqL.of upd_same, rfl, .inl ⟨c, rfl, _, rfl, c, n, rfl, rfl, n0, ?_⟩⟩
    refine ⟨_, rfl, _, _, _, _, rfl, rfl, SqL.of upd_same, rfl, _, rfl, c, n, rfl, rfl, wide_div (b := 100) n0 (by omega) (by decide) (by decide), ?_⟩
    refine ⟨_, rfl, _, _, _, _, rfl, rfl, upd_same, rfl, ?_⟩
    refine ⟨_, rfl, ?_⟩
    rw [upd_upd]
    exact hD _ _ _ (Int.ediv_nonneg c0 (by omega)) m0 m1 (Int.emod_nonneg _ (by omega)) (Int.emod_lt_of_pos _ n0)
  · show ite (decide (0 < c) = true) _ _
    rw [if_neg (by simpa using hc)]
    refine ⟨_, rfl, _, _, _, _, rfl, rfl, SqL.of upd_same, rfl, ?_⟩
    refine ⟨_, rfl, m, 3, rfl, rfl, ⟨by decide, by decide, by omega⟩, ?_⟩
    refine ⟨_, rfl, m, 36007, rfl, rfl, .inr ⟨by decide, by decide⟩, _, _, rfl, rfl, ?_⟩
    refine ⟨_, rfl, _, _, _, _, rfl, rfl, SqL.of upd_same, rfl, k, 1299721, rfl, rfl, .inr ⟨by decide, by decide⟩, _, _, rfl, rfl, _, _, rfl, rfl, ?_⟩
    refine .inl ⟨_, rfl, _, 2147483353, rfl, rfl, (by decide : (0 : Int) < 2147483353), ?_⟩
    refine ⟨_, rfl, _, _, _, _, rfl, rfl, upd_same, rfl, ?_⟩
    rw [upd_upd]
    refine ⟨_, rfl, _, _, _, _, rfl, rfl, SqL.of upd_same, rfl, _, 89, rfl, rfl, ⟨by decide, by decide⟩, ?_⟩
    refine ⟨_, rfl, _, _, _, _, rfl, rfl, SqL.of upd_same, rfl, .inl ⟨_, rfl, _, 7907, rfl, rfl, (by decide : (0 : Int) < 7907), _, 61, rfl, rfl, .inr ⟨by decide, by decide⟩, _, _, rfl, rfl, ?_⟩⟩
    refine .inl ⟨_, rfl, _, rfl, _, n, rfl, rfl, n0, ?_⟩
    exact hD _ _ _ c0 (Int.emod_nonneg _ (by decide)) (Int.emod_lt_of_pos _ (by decide)) (Int.emod_nonneg _ (by omega)) (Int.emod_lt_of_pos _ n0)
/-- the way into it: the count, the cell -/
theorem pull_ok (hi : mg "int" = none) (hl : mg "len" = none) {H R : Hp} {B L : Addr} {ns : List Int} {i c m k n : Int} {D : Ends} (hB : H B = some (bagO L i c m k)) (hL : H L = some (.lst (ns.map V.int))) (i0 : 0 ≤ i) (c0 : 0 ≤ c) (m0 : 0 ≤ m) (m1 : m < 2147483353) (n0 : 0 < n) (n1 : n ≤ 1000000000000000000000000000000)
    (hD : ∀ v i' c' m' k', 0 ≤ i' → 0 ≤ c' → 0 ≤ m' → m' < 2147483353 → 0 ≤ v → v < n → D.rt (.int v) (upd H B (bagO L i' c' m' k'))) :
    wpss (XP P w K mg base f cdv A outer s0 H0 E0) (defBody s_l_pull) D [some (.ref B), some (.int n), none, none, none] H := by
  have hLB : L ≠ B := by
    intro e; rw [e, hB] at hL
    cases ns with
    | nil => cases hL
    | cons a as => injection hL with q; injection q with q; injection q with q; cases q
  refine of_pss (pss_cons (ps_asg (pe_op op_add (pe_ix ix_list (pv 0) pe_int fun _ _ => rfl) pe_int) (pg_sub (pv 0) pe_int set_list))
    (pss_cons (ps_if (PW.pt (pw_and (pt_cmp (pc_eqI (pe_ix ix_list (pv 0) pe_int fun _ _ => rfl) pe_int)) (pw_and1 (pt_cmp (pc_lt (pe_ix ix_list (pv 0) pe_int fun _ _ => rfl) (pe_callB call_len (by rfl) hl boot_len (pa_cons (pe_ix ix_list (pv 0) pe_int fun _ _ => rfl) pa_nil)))))))
      (pss_cons (ps_set (i := 3) sc_l_pull.nd rfl (Or.inl rfl) (pe_ix ix_list (pe_ix ix_list (pv 0) pe_int fun _ _ => rfl) (pe_ix ix_list (pv 0) pe_int fun _ _ => rfl) fun _ _ => rfl))
        (pss_cons (ps_asg (pe_op op_add (pe_ix ix_list (pv 0) pe_int fun _ _ => rfl) pe_int) (pg_sub (pv 0) pe_int set_list))
          (pss_cons (ps_if (pt_cmp (pc_ge (pv 3) (pe_op op_pow pe_int pe_int))) (pss_one (ps_asg (pv 3) (pg_sub (pv 0) pe_int set_list))) pss_nil)
            (pss_one (ps_asg (pe_op op_mod (pe_callTy call_int1 (by rfl) hi (by rfl) (pa_cons (pe_op op_add (pe_op op_add (pe_op op_mul (pe_ix ix_list (pv 0) pe_int fun _ _ => rfl) pe_int) (pe_op op_mul (pe_op op_mod (pe_callTy call_int1 (by rfl) hi (by rfl) (pa_cons (pv 3) pa_nil)) pe_int) pe_int)) pe_int) pa_nil)) pe_int) (pg_sub (pv 0) pe_int set_list)))))) pss_nil)
    (pss_wpt ((defBody s_l_pull).drop 2)))) ?_
  refine ⟨_, rfl, _, _, _, _, rfl, rfl, SqL.of hB, rfl, k, 1, rfl, rfl, _, rfl, _, _, _, _, rfl, rfl, hB, rfl, ?_⟩
  refine ⟨_, rfl, _, _, _, _, rfl, rfl, SqL.of upd_same, rfl, c, 0, rfl, rfl, _, rfl, ?_⟩
  show ite (decide (c = 0) = true) _ _
  have E : ∀ (i' c' m' : Int) (x3 : Option V), 0 ≤ i' → 0 ≤ c' → 0 ≤ m' → m' < 2147483353 → wpss (XP P w K mg base f cdv A outer s0 H0 E0) ((defBody s_l_pull).drop 2) D [some (.ref B), some (.int n), none, x3, none] (upd H B (bagO L i' c' m' (k + 1))) :=
    fun i' c' m' x3 h1 h2 h3 h4 => pull_end hi h2 h3 n0 n1 (fun v c2 m2 g1 g2 g3 g4 g5 => hD v i' c2 m2 (k + 1) h1 g1 g2 g3 g4 g5) h4
  by_cases hc : c = 0
  · rw [if_pos (decide_eq_true hc)]
    have hL1 : ∀ o, upd H B o L = some (.lst (ns.map V.int)) := fun o => by rw [upd_ne hLB]; exact hL
    refine ⟨_, rfl, _, _, _, _, rfl, rfl, SqL.of upd_same, rfl, _, rfl, _, _, _, _, rfl, rfl, SqL.of upd_same, rfl, _, _, rfl, .inl ⟨_, SqL.of (hL1 _), rfl⟩, i, _, rfl, rfl, _, rfl, ?_⟩
    show ite (decide (i < ((ns.map V.int).length : Int)) = true) _ _
    by_cases hin : i < ((ns.map V.int).length : Int)
    · rw [if_pos (decide_eq_true hin)]
      obtain ⟨u, hu⟩ : ∃ u : Int, atI (ns.map V.int) i = some (.int u) := by
        unfold atI ixN
        rw [if_pos i0, if_pos hin]
        rw [List.length_map] at hin
        have q : i.toNat < ns.length := by omega
        exact ⟨ns[i.toNat], by simp [q]⟩
      refine ⟨_, rfl, _, _, _, _, rfl, rfl, SqL.of upd_same, rfl, _, rfl, _, _, _, _, rfl, rfl, SqL.of upd_same, rfl, L, _, i, .int u, rfl, rfl, SqL.of (hL1 _), hu, ?_⟩
      refine ⟨_, rfl, _, _, _, _, rfl, rfl, SqL.of upd_same, rfl, i, 1, rfl, rfl, _, rfl, _, _, _, _, rfl, rfl, upd_same, rfl, ?_⟩
      rw [upd_upd]
      refine ⟨_, rfl, 10, 18, rfl, rfl, ⟨by decide, by decide, by decide⟩, u, _, rfl, rfl, _, rfl, ?_⟩
      show ite (decide ((10 : Int) ^ (18 : Int).toNat ≤ u) = true) _ _
      have e18 : (10 : Int) ^ (18 : Int).toNat = 1000000000000000000 := by decide
      rw [e18]
      by_cases hu2 : (1000000000000000000 : Int) ≤ u
      · rw [if_pos (decide_eq_true hu2)]
        refine ⟨_, rfl, _, rfl, _, _, _, _, rfl, rfl, upd_same, rfl, ?_⟩
        rw [upd_upd]
        refine ⟨_, rfl, _, _, _, _, rfl, rfl, SqL.of upd_same, rfl, m, 40093, rfl, rfl, .inr ⟨by decide, by decide⟩, _, rfl, .inl ⟨u, rfl, u, 2147483249, rfl, rfl, (by decide : (0 : Int) < 2147483249), _, 52153, rfl, rfl, .inr ⟨by decide, by decide⟩, _, _, rfl, rfl, _, _, rfl, rfl, ?_⟩⟩
        refine .inl ⟨_, rfl, _, 2147483353, rfl, rfl, (by decide : (0 : Int) < 2147483353), ?_⟩
        refine ⟨_, rfl, _, _, _, _, rfl, rfl, upd_same, rfl, ?_⟩
        rw [upd_upd]
        exact E _ _ _ _ (by omega) (by omega) (Int.emod_nonneg _ (by decide)) (Int.emod_lt_of_pos _ (by decide))
      · rw [if_neg (by simpa using hu2)]
        refine ⟨_, rfl, _, _, _, _, rfl, rfl, SqL.of upd_same, rfl, m, 40093, rfl, rfl, .inr ⟨by decide, by decide⟩, _, rfl, .inl ⟨u, rfl, u, 2147483249, rfl, rfl, (by decide : (0 : Int) < 2147483249), _, 52153, rfl, rfl, .inr ⟨by decide, by decide⟩, _, _, rfl, rfl, _, _, rfl, rfl, ?_⟩⟩
        refine .inl ⟨_, rfl, _, 2147483353, rfl, rfl, (by decide : (0 : Int) < 2147483353), ?_⟩
        refine ⟨_, rfl, _, _, _, _, rfl, rfl, upd_same, rfl, ?_⟩
        rw [upd_upd]
        exact E _ _ _ _ (by omega) c0 (Int.emod_nonneg _ (by decide)) (Int.emod_lt_of_pos _ (by decide))
    · rw [if_neg (by simpa using hin)]
      exact E i c m none i0 c0 m0 m1
  · rw [if_neg (by simpa using hc)]
    exact E i c m none i0 c0 m0 m1
end
theorem nx_bag {T : Tb} {μ : Mu} {R H : Hp} (s : Same R H) (b : BagOk T.B R H) (o : StoOk T R H μ) {L : Addr} {ns : List Int} {i c m k : Int} (hL : R L = some (.lst (ns.map V.int))) (i0 : 0 ≤ i) (c0 : 0 ≤ c) (m0 : 0 ≤ m) (m1 : m < 2147483353) :
    MP.Nx T μ R H μ R (upd H T.B (bagO L i c m k)) := by
  have rB := b.1
  have nb : ∀ {x : Addr} {o : HO}, R x = some o → x ≠ T.B := fun {x o} h e => by rw [e, rB] at h; cases h
  refine ⟨fun _ _ h => h, fun x o h => by rw [upd_ne (nb h)]; exact s x o h, fun x o h hx _ => by rw [upd_ne hx]; exact h, fun x h => ?_, fun _ _ hm => ⟨rfl, hm⟩, ⟨rB, L, ns, i, c, m, k, upd_same, hL, i0, c0, m0, m1⟩, fun a d e => ?_⟩
  · by_cases e : x = T.B
    · rw [e, upd_same]; exact fun z => nomatch z
    · rw [upd_ne e]; exact h
  · obtain ⟨h1, h2, h3⟩ := o a d e
    exact ⟨h1, h2, h3.mono (Same.refl R) (by rw [upd_ne h2])⟩
/-- what _law_pull promises -/
def pPull : Prm := fun ds μ _ W => match ds with
  | [.bag, .int n] => (0 < n ∧ n ≤ 1000000000000000000000000000000) ∧ ∀ i, 0 ≤ i → i < n → W (.int i) μ
  | _ => False
theorem pull_row {P : Program} {w : World} {K : PySem.W.Frag} {mg : Str → Option Value} {base : Heap} {hi : PInj PP} (hr : PP.rows[jPull]? = some r_l_pull) (F : RowF K r_l_pull) (hint : mg "int" = none) (hlen : mg "len" = none) : CallOk PP hi P w K mg base 2 jPull pPull := by
  refine row_gen (k := 1) hr F (by decide +kernel) fun B cdv A outer s H xs ls μ R Xx W Q E hr' rd sR bR oR hl hb t tx => ?_
  rcases ls with _ | ⟨d1, _ | ⟨d2, _ | ⟨_, _⟩⟩⟩ <;> first | exact hb.elim | skip
  · cases d1 <;> exact hb.elim
  · cases d1 <;> first | exact hb.elim | skip
    cases d2 <;> first | exact hb.elim | skip
    rename_i n
    obtain ⟨⟨n0, n1⟩, hq⟩ := hb
    rcases rd with _ | ⟨r1, _ | ⟨r2, _ | ⟨_, _⟩⟩⟩
    cases r1
    cases r2
    have b1 := bR
    obtain ⟨rB, L, ns, i, c, mm, kk, hB, hL, i0, c0, m0, m1⟩ := b1
    exact pull_ok hint hlen (R := R) hB (sR _ _ hL) i0 c0 m0 m1 n0 n1 fun v i' c' m' k' h1 h2 h3 h4 h5 h6 => t _ _ _ _ _ (nx_bag (T := PP.tb hi K B) sR bR oR hL h1 h2 h3 h4) (.int v) (hq v h5 h6)
  · cases d1 <;> first | exact hb.elim | (cases d2 <;> exact hb.elim)
def spDr (K : PySem.W.Frag) : Sp := fun vs H Q _ => ∃ (a : Addr) (ns : List Int), vs = [.ref a] ∧ SqL K H a (ns.map V.int) ∧
  ∀ (B L : Addr) (ms : List Int) (H' : Hp), H' B = some (bagO L 0 0 12020 0) → H' L = some (.lst (ms.map V.int)) → Q (.ref B) H'
theorem ok_draws {P : Program} {w : World} {K : PySem.W.Frag} {mg : Str → Option Value} {base : Heap} {f : Addr} {fd : FuncData} {k : Nat} (F : FnP K "_law_draws" s_l_draws f fd) (hl : mg "list" = none) : FnOk P w K mg base CX0 (k + 1) f fd p_l_draws (spDr K) := by
  refine F.ok sc_l_draws (fun vs H Q E h => ?_) (fun cdv A outer s H vs Q E hr h => ⟨_, PSs.nox (pss_wpt _), ?_⟩)
  · obtain ⟨a, ns, rfl, _⟩ := h; rfl
  · refine of_pss (pss_one (ps_ret (pe_lst (pa_cons (pe_callTy call_list_of (by rfl) hl (by rfl) (pa_cons (pe_slice sl_list (pv 0) po_none (po_some pe_int)) pa_nil)) (pa_cons pe_int (pa_cons pe_int (pa_cons pe_int (pa_cons pe_int pa_nil)))))))) ?_
    obtain ⟨a, ns, rfl, hS, q⟩ := h
    obtain ⟨ms, hms⟩ : ∃ ms : List Int, cutV (ns.map V.int) none (some 63) = ms.map V.int := by
      unfold cutV
      exact ⟨_, by rw [← List.map_drop, ← List.map_take]⟩
    refine ⟨_, rfl, _, rfl, _, _, rfl, hS, fun p0 hp0 => ?_⟩
    rw [hms]
    refine ⟨_, _, rfl, .inl (SqL.of upd_same), fun l hl => ⟨by rw [sizeLine_eq]; show 5 ≤ 16777216; decide, fun B hB => ?_⟩⟩
    refine q B l ms _ upd_same ?_
    have : l ≠ B := by
      intro e; subst e; rw [upd_same] at hB; cases hB
    rw [upd_ne this, upd_same]
end K42
set_option maxHeartbeats 4000000
namespace K42
open PySem PySem.Spec PyProof.Rows L2 MP
def spLaw (K : PySem.W.Frag) : Sp := fun vs H Q _ => ∃ (a : Addr) (ns : List Int), vs = [.ref a] ∧ SqL K H a (ns.map V.int) ∧ ∀ H', Q (.bl true) H'
def handP (f : Nat) : Option Prm := if f = jPull then some pPull else none
abbrev GL (n : Nat) : Sg := G PP handP n
/-- the law's own body, said over data -/
abbrev LawSays (n : Nat) : Prop := wSs (GL n) b_law { nx := fun _ _ => False, rt := fun d _ => d = .bl true } (none :: some .bag :: List.replicate (n_law.length - 2) none) (fun _ => none)
theorem pinj : PInj PP := an_inj (by decide +kernel)
theorem rows_all : (PP.rows.zipIdx.all fun q => decide (q.2 = jPull) || q.1.ok PP) = true := by decide +kernel
theorem rows_ok (f : Nat) (r : MP.Row) (hr : PP.rows[f]? = some r) (h : handP f = none) : r.ok PP = true := by
  have hf : f ≠ jPull := fun e => by simp [handP, e] at h
  have q := List.all_eq_true.mp rows_all (r, f) (by
    rw [List.mem_zipIdx_iff_getElem?]; exact hr)
  simpa [hf] using q
section
variable {P : Program} {w : World} {K : PySem.W.Frag} {mg : Str → Option Value} {base : Heap} {k : Nat}
theorem ok_law {n : Nat} (hs : LawSays n) {f fD : Addr} {fd fdD : FuncData} (F : FnP K "law" s_law f fd) (FD : FnP K "_law_draws" s_l_draws fD fdD) (gD : mg "_law_draws" = some (.ref fD)) (hl : mg "list" = none) (G : SgOk PP pinj (GL n) (2 * n) P w K mg base) :
    FnOk P w K mg base CX0 (2 * n + 2) f fd p_law (spLaw K) := by
  have GD : FnOk P w K mg base CX0 (2 * n + 1) fD fdD p_l_draws (spDr K) := (ok_draws (k := 0) FD hl).mono (by omega)
  have bD : Binds K fdD p_l_draws [] := FD.bindsN fun _ _ _ _ _ _ us hl => match us, hl with | [_], _ => rfl
  refine F.ok sc_law (fun vs H Q E h => ?_) (fun cdv A outer s H vs Q E hr h => ⟨_, PSs.nox (pss_wpt _), ?_⟩)
  · obtain ⟨a, ns, rfl, _⟩ := h; rfl
  · refine of_pss (pss_cons (ps_set (i := 1) sc_law.nd rfl (loc_of (show locB (defScope s_law) "_law_bag" = true by decide +kernel)) (pe_call GD hr (by rfl) gD FD.kp bD .nil pass0 (pa_cons (pv 0) pa_nil))) (pss_wpt (defBody s_law).tail)) ?_
    obtain ⟨a, ns, rfl, hS, q⟩ := h
    refine ⟨_, rfl, a, ns, rfl, hS, fun B L ms H' hB hL => ?_⟩
    have hBL : B ≠ L := by
      intro e; rw [← e, hB] at hL
      cases ms with
      | nil => cases hL
      | cons a as => injection hL with q; injection q with q; injection q with q; cases q
    have hS' : Same (upd (fun _ => none) L (.lst (ms.map V.int))) H' := by
      intro b o hb
      by_cases e : b = L
      · subst e; rw [upd_same] at hb; rw [← hb]; exact hL
      · rw [upd_ne e] at hb; cases hb
    have hBag : BagOk B (upd (fun _ => none) L (.lst (ms.map V.int))) H' := ⟨by rw [upd_ne hBL], L, ms, 0, 0, 12020, 0, hB, upd_same, by decide, by decide, by decide, by decide⟩
    have hSto : StoOk (PP.tb pinj K B) (upd (fun _ => none) L (.lst (ms.map V.int))) H' (fun _ => none) := fun a d e => nomatch e
    have SX : StX PP pinj (GL n) (2 * n) n_law (defScope s_law) (defScope s_law) (cxOf CX0 P w K mg base n_law "law" (defScope s_law) f cdv A outer s H E).nox B (fun _ => none) (upd (fun _ => none) L (.lst (ms.map V.int))) H' :=
      ⟨rfl, rfl, sc_law.kind, sc_law.nd, rfl, hr, fun x l => ⟨l, .inl rfl⟩, G, fun _ _ _ _ => False, takes0, fun σ c fs μ' R' H' dx vs nx h1 h2 z => by
        have z : (GL n).ex (.exc c fs) μ' := z
        cases n <;> exact z.elim⟩
    refine sSs (Γ := GL n) b_law (defScope s_law) (defBody s_law).tail k_law _ B _ _ _ SX PassesOwn.never (fun _ => none) _ H' _ (none :: some .bag :: List.replicate (n_law.length - 2) none) _ _ ⟨rfl, fun i d h => ?_, Nx.refl hS' hBag hSto⟩ hs ⟨?_, ?_, ?_, ?_⟩
    · rcases i with _ | _ | i
      · cases h
      · cases h; exact ⟨.ref B, rfl, .bag⟩
      · have e : some d = (none : Option D) := List.eq_of_mem_replicate (List.mem_of_getElem? (show (List.replicate (n_law.length - 2) (none : Option D))[i]? = some (some d) from h))
        cases e
    · exact fun σ ρ μ R' H' _ o hw => hw.elim
    · exact fun σ ρ μ R' H' _ o hw => hw.elim
    · exact fun σ ρ μ R' H' _ o hw => hw.elim
    · exact fun v d μ R' H'' nx r hw => by
        subst hw
        cases r
        exact q H''
end
end K42
namespace K42
structure Kk where
  up : Bool
  p : Int
  w : Int
  deriving DecidableEq
def okK (k : Kk) : Prop := (-99 ≤ k.p ∧ k.p ≤ 99) ∧ 1 ≤ k.w ∧ k.w ≤ 99
def pos (z : Int) : Int := if z > 0 then z else 0
def cost (k : Kk) (x : Int) : Int := k.w * pos (if k.up then x - k.p else k.p - x)
def total (ks : List Kk) (x : Int) : Int := (ks.map (cost · x)).sum
theorem pos_of {z : Int} (h : 0 ≤ z) : pos z = z := by unfold pos; split <;> omega
theorem pos_no {z : Int} (h : z ≤ 0) : pos z = 0 := by unfold pos; split <;> omega
/-- between two numbers with no place strictly between them a kink's cost is straight -/
theorem cost_line (k : Kk) {a b x : Int} (h1 : a ≤ x) (h2 : x ≤ b) (hp : k.p ≤ a ∨ b ≤ k.p) : cost k x * (b - a) = cost k a * (b - x) + cost k b * (x - a) := by
  unfold cost
  cases k.up <;> rcases hp with h | h <;> simp only [if_true, Bool.false_eq_true, if_false]
  · rw [pos_no (by omega : k.p - x ≤ 0), pos_no (by omega : k.p - a ≤ 0), pos_no (by omega : k.p - b ≤ 0)]; grind
  · rw [pos_of (by omega : 0 ≤ k.p - x), pos_of (by omega : 0 ≤ k.p - a), pos_of (by omega : 0 ≤ k.p - b)]; grind
  · rw [pos_of (by omega : 0 ≤ x - k.p), pos_of (by omega : 0 ≤ a - k.p), pos_of (by omega : 0 ≤ b - k.p)]; grind
  · rw [pos_no (by omega : x - k.p ≤ 0), pos_no (by omega : a - k.p ≤ 0), pos_no (by omega : b - k.p ≤ 0)]; grind
theorem total_line {a b x : Int} (h1 : a ≤ x) (h2 : x ≤ b) : ∀ {ks : List Kk}, (∀ k, k ∈ ks → k.p ≤ a ∨ b ≤ k.p) → total ks x * (b - a) = total ks a * (b - x) + total ks b * (x - a)
  | [], _ => by simp [total]
  | k :: ks, h => by
    have e1 := cost_line k h1 h2 (h k List.mem_cons_self)
    have e2 := total_line h1 h2 (ks := ks) fun j hj => h j (List.mem_cons_of_mem _ hj)
    simp only [total, List.map_cons, List.sum_cons] at e2 ⊢
    grind
theorem low_of {x : Int} : ∀ {l : List Int}, (∃ y, y ∈ l ∧ y ≤ x) → ∃ a, a ∈ l ∧ a ≤ x ∧ ∀ p, p ∈ l → p ≤ x → p ≤ a
  | [], h => by obtain ⟨_, h, _⟩ := h; cases h
  | c :: l, h => by
    by_cases hl : ∃ y, y ∈ l ∧ y ≤ x
    · obtain ⟨a, h1, h2, h3⟩ := low_of hl
      by_cases hc : c ≤ x ∧ a ≤ c
      · exact ⟨c, List.mem_cons_self, hc.1, fun p hp hx => (List.mem_cons.mp hp).elim (fun e => by omega) fun q => Int.le_trans (h3 p q hx) hc.2⟩
      · exact ⟨a, List.mem_cons_of_mem _ h1, h2, fun p hp hx => (List.mem_cons.mp hp).elim (fun e => by omega) fun q => h3 p q hx⟩
    · obtain ⟨y, hy, hyx⟩ := h
      rcases List.mem_cons.mp hy with rfl | q
      · exact ⟨y, List.mem_cons_self, hyx, fun p hp hx => (List.mem_cons.mp hp).elim (fun e => by omega) fun q => absurd ⟨p, q, hx⟩ hl⟩
      · exact absurd ⟨y, q, hyx⟩ hl
theorem high_of {x : Int} {l : List Int} (h : ∃ y, y ∈ l ∧ x ≤ y) : ∃ a, a ∈ l ∧ x ≤ a ∧ ∀ p, p ∈ l → x ≤ p → a ≤ p := by
  obtain ⟨y, hy, hx⟩ := h
  obtain ⟨a, h1, h2, h3⟩ := low_of (x := -x) (l := l.map fun z => -z) ⟨-y, List.mem_map.mpr ⟨y, hy, rfl⟩, by omega⟩
  obtain ⟨b, hb, rfl⟩ := List.mem_map.mp h1
  exact ⟨b, hb, by omega, fun p hp hpx => by
    have := h3 (-p) (List.mem_map.mpr ⟨p, hp, rfl⟩) (by omega)
    omega⟩
/-- two prices that agree at all places, at one number below and at one above agree everywhere -/
theorem same_all {ks ls : List Kk} {l : List Int} (hk : ∀ k, k ∈ ks → k.p ∈ l) (hl : ∀ k, k ∈ ls → k.p ∈ l) {lo hi : Int} (h1 : lo ∈ l) (h2 : hi ∈ l) (h3 : ∀ p, p ∈ l → lo ≤ p ∧ p ≤ hi)
    (e : ∀ p, p ∈ l → total ks p = total ls p) (e1 : total ks (lo - 1) = total ls (lo - 1)) (e2 : total ks (hi + 1) = total ls (hi + 1)) (x : Int) : total ks x = total ls x := by
  have line : ∀ {a b y : Int}, a ≤ y → y ≤ b → (∀ p, p ∈ l → p ≤ a ∨ b ≤ p) → (total ks y - total ls y) * (b - a) = (total ks a - total ls a) * (b - y) + (total ks b - total ls b) * (y - a) := fun {a b y} q1 q2 q3 => by
    have z1 := total_line q1 q2 (ks := ks) fun k hkm => q3 _ (hk k hkm)
    have z2 := total_line q1 q2 (ks := ls) fun k hkm => q3 _ (hl k hkm)
    grind
  by_cases c1 : x < lo
  · have z := line (a := x) (b := lo) (y := lo - 1) (by omega) (by omega) fun p hp => .inr (h3 p hp).1
    have := e lo h1
    have z' : (total ks x - total ls x) * (lo - (lo - 1)) = 0 := by grind
    have : lo - (lo - 1) = 1 := by omega
    rw [this] at z'
    omega
  · by_cases c2 : hi < x
    · have z := line (a := hi) (b := x) (y := hi + 1) (by omega) (by omega) fun p hp => .inl (h3 p hp).2
      have := e hi h2
      have z' : (total ks x - total ls x) * (hi + 1 - hi) = 0 := by grind
      have : hi + 1 - hi = 1 := by omega
      rw [this] at z'
      omega
    · obtain ⟨a, ha, hax, ham⟩ := low_of (x := x) ⟨lo, h1, by omega⟩
      obtain ⟨b, hb, hbx, hbm⟩ := high_of (x := x) ⟨hi, h2, by omega⟩
      by_cases hab : a = x
      · rw [← hab]; exact e a ha
      · by_cases hbx' : b = x
        · rw [← hbx']; exact e b hb
        · have z := line (a := a) (b := b) (y := x) hax hbx fun p hp => by
            by_cases q : p ≤ x
            · exact .inl (ham p hp q)
            · exact .inr (hbm p hp (by omega))
          have za := e a ha
          have zb := e b hb
          have z' : (total ks x - total ls x) * (b - a) = 0 := by grind
          have hne : b - a ≠ 0 := by omega
          rcases Int.mul_eq_zero.mp z' with q | q
          · omega
          · exact absurd q hne
/-- do two prices cost the same, at the numbers that the law looks at? -/
def sameB (ks ls : List Kk) : Bool := (List.range 203).all fun i => decide (total ks (-101 + (i : Int)) = total ls (-101 + (i : Int)))
theorem sameB_iff {ks ls : List Kk} : sameB ks ls = true ↔ ∀ x : Int, -101 ≤ x → x ≤ 101 → total ks x = total ls x := by
  unfold sameB
  simp only [List.all_eq_true, List.mem_range, decide_eq_true_eq]
  constructor
  · intro h x h1 h2
    have := h (x + 101).toNat (by omega)
    rw [show (-101 : Int) + ((x + 101).toNat : Int) = x by omega] at this
    exact this
  · intro h i hi
    exact h _ (by omega) (by omega)
/-- what `alike` looks at, and what it should say -/
theorem ends_same {ks ls : List Kk} (hk : ∀ k, k ∈ ks → okK k) (hl : ∀ k, k ∈ ls → okK k) {l : List Int} (hp : l.Perm ((ks.map (·.p) ++ ls.map (·.p)) ++ [0])) (hs : l.Pairwise (· ≤ ·)) {lo hi : Int} {m m' : List Int} (e1 : l = lo :: m) (e2 : l = m' ++ [hi]) :
    (([lo - 1] ++ l ++ [hi + 1]).map fun x => decide (total ks x = total ls x)).all id = sameB ks ls := by
  have h1 : lo ∈ l := by rw [e1]; exact List.mem_cons_self
  have h2 : hi ∈ l := by rw [e2]; simp
  have h3 : ∀ p, p ∈ l → lo ≤ p ∧ p ≤ hi := fun p hpm => by
    constructor
    · rw [e1] at hs hpm
      rcases List.mem_cons.mp hpm with rfl | q
      · omega
      · exact (List.pairwise_cons.mp hs).1 p q
    · rw [e2] at hs hpm
      rcases List.mem_append.mp hpm with q | q
      · exact (List.pairwise_append.mp hs).2.2 p q hi (by simp)
      · simp at q; omega
  have bd : ∀ p, p ∈ l → -99 ≤ p ∧ p ≤ 99 := fun p hpm => by
    have := hp.mem_iff.mp hpm
    simp only [List.mem_append, List.mem_map, List.mem_singleton] at this
    rcases this with (⟨k, hkm, rfl⟩ | ⟨k, hkm, rfl⟩) | rfl
    · exact (hk k hkm).1
    · exact (hl k hkm).1
    · omega
  rw [Bool.eq_iff_iff, sameB_iff]
  simp only [List.all_eq_true, List.mem_map, List.mem_append, List.mem_singleton, id, forall_exists_index, and_imp, forall_apply_eq_imp_iff₂, decide_eq_true_eq]
  constructor
  · intro h x _ _
    refine same_all (l := l) (fun k hkm => ?_) (fun k hkm => ?_) h1 h2 h3 (fun p hpm => h p (.inl (.inr hpm))) (h _ (.inl (.inl rfl))) (h _ (.inr rfl)) x
    · exact hp.mem_iff.mpr (by simp only [List.mem_append, List.mem_map]; exact .inl (.inl ⟨k, hkm, rfl⟩))
    · exact hp.mem_iff.mpr (by simp only [List.mem_append, List.mem_map]; exact .inl (.inr ⟨k, hkm, rfl⟩))
  · intro h x hx
    have b1 := bd lo h1
    have b2 := bd hi h2
    rcases hx with (rfl | hx) | rfl
    · exact h _ (by omega) (by omega)
    · have := bd x hx
      exact h _ (by omega) (by omega)
    · exact h _ (by omega) (by omega)
theorem total_perm {ks ls : List Kk} (h : ks.Perm ls) (x : Int) : total ks x = total ls x := by
  unfold total
  induction h with
  | nil => rfl
  | cons a _ ih => simp only [List.map_cons, List.sum_cons]; omega
  | swap a b l => simp only [List.map_cons, List.sum_cons]; omega
  | trans _ _ h1 h2 => omega
theorem sameB_refl (ks : List Kk) : sameB ks ks = true := sameB_iff.mpr fun _ _ _ => rfl
theorem sameB_comm (ks ls : List Kk) : sameB ks ls = sameB ls ks := by
  rw [Bool.eq_iff_iff, sameB_iff, sameB_iff]
  exact ⟨fun h x h1 h2 => (h x h1 h2).symm, fun h x h1 h2 => (h x h1 h2).symm⟩
end K42
set_option maxHeartbeats 4000000
namespace K42
open PySem PySem.Spec PyProof.Rows L2 MP
/-- what the j-th def gives, one level down -/
def fnR (n j : Nat) : Prm := fun ds μ ex W => match PP.rows[j]? with
  | some r => ds.length = r.sig.ps.length ∧ wB (GL n) r.N.length r.body ds μ ex W
  | none => False
theorem fn_eq (n j : Nat) (h1 : handP j = none) (h2 : j < PP.rows.length) : (GL (n + 1)).fn j = some (fnR n j) := by
  have e : PP.rows[j]? = some PP.rows[j] := List.getElem?_eq_getElem h2
  show (match handP j with | some p => some p | none => (PP.rows[j]?).map fun (r : MP.Row) => fun ds μ ex W => ds.length = r.sig.ps.length ∧ wB (GL n) r.N.length r.body ds μ ex W) = _
  rw [h1, e]
  show some _ = some _
  congr 1
  funext ds μ ex W
  unfold fnR
  rw [e]
theorem fn_pull (n : Nat) : (GL (n + 1)).fn 9 = some pPull := rfl
theorem fn0 (n : Nat) : (GL (n + 1)).fn 0 = some (fnR n 0) := fn_eq n 0 rfl (by decide)
theorem fn1 (n : Nat) : (GL (n + 1)).fn 1 = some (fnR n 1) := fn_eq n 1 rfl (by decide)
theorem fn2 (n : Nat) : (GL (n + 1)).fn 2 = some (fnR n 2) := fn_eq n 2 rfl (by decide)
theorem fn3 (n : Nat) : (GL (n + 1)).fn 3 = some (fnR n 3) := fn_eq n 3 rfl (by decide)
theorem fn4 (n : Nat) : (GL (n + 1)).fn 4 = some (fnR n 4) := fn_eq n 4 rfl (by decide)
theorem fn5 (n : Nat) : (GL (n + 1)).fn 5 = some (fnR n 5) := fn_eq n 5 rfl (by decide)
theorem fn6 (n : Nat) : (GL (n + 1)).fn 6 = some (fnR n 6) := fn_eq n 6 rfl (by decide)
theorem fn7 (n : Nat) : (GL (n + 1)).fn 7 = some (fnR n 7) := fn_eq n 7 rfl (by decide)
theorem fn8 (n : Nat) : (GL (n + 1)).fn 8 = some (fnR n 8) := fn_eq n 8 rfl (by decide)
theorem fn10 (n : Nat) : (GL (n + 1)).fn 10 = some (fnR n 10) := fn_eq n 10 rfl (by decide)
theorem fn11 (n : Nat) : (GL (n + 1)).fn 11 = some (fnR n 11) := fn_eq n 11 rfl (by decide)
theorem fn12 (n : Nat) : (GL (n + 1)).fn 12 = some (fnR n 12) := fn_eq n 12 rfl (by decide)
theorem fn13 (n : Nat) : (GL (n + 1)).fn 13 = some (fnR n 13) := fn_eq n 13 rfl (by decide)
theorem fn14 (n : Nat) : (GL (n + 1)).fn 14 = some (fnR n 14) := fn_eq n 14 rfl (by decide)
theorem fn15 (n : Nat) : (GL (n + 1)).fn 15 = some (fnR n 15) := fn_eq n 15 rfl (by decide)
theorem fr0 {n : Nat} {ds : List D} {μ : Mu} {ex W : Po} (h : ds.length = 3 ∧ wB (GL n) n_is_number.length b_is_number ds μ ex W) : fnR n 0 ds μ ex W := h
theorem fr1 {n : Nat} {ds : List D} {μ : Mu} {ex W : Po} (h : ds.length = 1 ∧ wB (GL n) n_is_integer.length b_is_integer ds μ ex W) : fnR n 1 ds μ ex W := h
theorem fr2 {n : Nat} {ds : List D} {μ : Mu} {ex W : Po} (h : ds.length = 1 ∧ wB (GL n) n_is_kink.length b_is_kink ds μ ex W) : fnR n 2 ds μ ex W := h
theorem fr3 {n : Nat} {ds : List D} {μ : Mu} {ex W : Po} (h : ds.length = 2 ∧ wB (GL n) n_kink_cost.length b_kink_cost ds μ ex W) : fnR n 3 ds μ ex W := h
theorem fr4 {n : Nat} {ds : List D} {μ : Mu} {ex W : Po} (h : ds.length = 2 ∧ wB (GL n) n_Price_init.length b_Price_init ds μ ex W) : fnR n 4 ds μ ex W := h
theorem fr5 {n : Nat} {ds : List D} {μ : Mu} {ex W : Po} (h : ds.length = 2 ∧ wB (GL n) n_Price_call.length b_Price_call ds μ ex W) : fnR n 5 ds μ ex W := h
theorem fr6 {n : Nat} {ds : List D} {μ : Mu} {ex W : Po} (h : ds.length = 2 ∧ wB (GL n) n_Price_alike.length b_Price_alike ds μ ex W) : fnR n 6 ds μ ex W := h
theorem fr7 {n : Nat} {ds : List D} {μ : Mu} {ex W : Po} (h : ds.length = 1 ∧ wB (GL n) n_Price_plain.length b_Price_plain ds μ ex W) : fnR n 7 ds μ ex W := h
theorem fr8 {n : Nat} {ds : List D} {μ : Mu} {ex W : Po} (h : ds.length = 2 ∧ wB (GL n) n_Price_add.length b_Price_add ds μ ex W) : fnR n 8 ds μ ex W := h
theorem fr10 {n : Nat} {ds : List D} {μ : Mu} {ex W : Po} (h : ds.length = 2 ∧ wB (GL n) n_l_any.length b_l_any ds μ ex W) : fnR n 10 ds μ ex W := h
theorem fr11 {n : Nat} {ds : List D} {μ : Mu} {ex W : Po} (h : ds.length = 2 ∧ wB (GL n) n_l_mixed.length b_l_mixed ds μ ex W) : fnR n 11 ds μ ex W := h
theorem fr12 {n : Nat} {ds : List D} {μ : Mu} {ex W : Po} (h : ds.length = 2 ∧ wB (GL n) n_l_like.length b_l_like ds μ ex W) : fnR n 12 ds μ ex W := h
theorem fr13 {n : Nat} {ds : List D} {μ : Mu} {ex W : Po} (h : ds.length = 2 ∧ wB (GL n) n_l_kink_cost.length b_l_kink_cost ds μ ex W) : fnR n 13 ds μ ex W := h
theorem fr14 {n : Nat} {ds : List D} {μ : Mu} {ex W : Po} (h : ds.length = 2 ∧ wB (GL n) n_l_some_kinks.length b_l_some_kinks ds μ ex W) : fnR n 14 ds μ ex W := h
theorem fr15 {n : Nat} {ds : List D} {μ : Mu} {ex W : Po} (h : ds.length = 1 ∧ wB (GL n) n_l_price.length b_l_price ds μ ex W) : fnR n 15 ds μ ex W := h
theorem gl_lt (n : Nat) : (0 < (GL n).nc) = True := by cases n <;> simp [G, PP]
theorem pull_eq {m : Int} {μ : Mu} {ex W : Po} : pPull [.bag, .int m] μ ex W = ((0 < m ∧ m ≤ 1000000000000000000000000000000) ∧ ∀ i, 0 ≤ i → i < m → W (.int i) μ) := rfl
local macro_rules | `(tactic| walk_at "mp") => `(tactic| simp only [Sg.noex, in_ins, sq_tup, sq_lst, if_false, if_true, Bool.false_eq_true, Bool.true_eq_false, Nat.reduceBEq, List.append_nil, List.drop_zero, List.drop_succ_cons, wB, wSs, wS, wE, wEs, wF, wO, wC, wI, start0, bindT, setAll, wipeD, iteP_true, iteP_false, pick, Dc.d, v_int, v_bl, v_str, v_non, v_tup, v_lst, v_ins, v_dct, v_bag, v_loc, t_bl, t_non, t_int, t_str, t_lst, t_tup, t_dct, k_int, k_bl, k_str, k_non, k_tup, k_lst, k_dct, k_ins, i_int, i_bl, i_str, i_lst, i_tup, i_dct, i_non, i_ins, c_eq, c_ne, c_lt, c_le, c_gt, c_ge, c_isN, c_notN, c_inL, c_inT, c_niL, c_niT, n_non, n_int, n_bl, n_str, n_lst, n_tup, n_dct, f_int, f_str, f_bl, f_non, ok_int, ok_bl, la_int, la_bl,   b_addI, b_addS, b_addT, b_addL, b_sub, b_mul, b_mulL, b_fdiv, b_mod, b_pow, f_lenL, f_lenT, f_lenD, f_lenS, f_tupL, f_tupT, f_lstL, f_lstT, f_intI, f_absI, f_max2, f_min2, s_lst, s_tup, o_some, at0, at1, at2, slD_lst, slD_tup, e_int, e_str, e_bl, e_non, e_lst, e_tup, es_nn, es_cc, es_cn, es_nc,   List.map_cons, List.map_nil, List.length_cons, List.length_nil, List.cons_append, List.nil_append, List.getElem?_cons_zero, List.getElem?_cons_succ, List.set_cons_zero, List.set_cons_succ, List.replicate_succ, List.replicate_zero, CEs.len, reduceCtorEq, ne_eq, not_false_eq_true, true_and, and_true, Bool.not_true, Bool.not_false, Nat.reduceAdd, Nat.reduceSub, beq_self_eq_true, List.all_cons, List.all_nil, Bool.and_self, Bool.and_true, Bool.true_and, List.any_cons, List.any_nil, Bool.or_false, Bool.false_or, Bool.true_or, Bool.or_true, List.lookup, Option.getD_some, bne_self_eq_false, decide_true, decide_false, Bool.true_beq, Bool.false_beq, beq_true, beq_false, Int.cast_ofNat_Int, fn0, fn1, fn2, fn3, fn4, fn5, fn6, fn7, fn8, fn_pull, fn10, fn11, fn12, fn13, fn14, fn15, gl_lt, pull_eq])
theorem ite_b {c : Bool} {A : D → Prop} {x y : Bool} (h : A (.bl (if c then x else y))) : iteP c (A (.bl x)) (A (.bl y)) := by cases c <;> exact h
def sideS (b : Bool) : Str := if b then "above" else "below"
def kD (k : Kk) : D := .tup [.str (sideS k.up), .int k.p, .int k.w]
def pD (ks : List Kk) : D := .ins 0 [(0, .tup (ks.map kD))]
section
variable {n : Nat} {μ : Mu} {ex W : Po}
theorem w_is_integer {i : Int} (h : W (.bl true) μ) : fnR n 1 [.int i] μ ex W := by
  refine fr1 ⟨rfl, ?_⟩
  unfold b_is_integer
  walk_at "mp"
  exact h
theorem w_is_number {i a b : Int} (h : W (.bl (decide (a ≤ i) && decide (i ≤ b))) μ) : fnR n 0 [.int i, .int a, .int b] μ ex W := by
  refine fr0 ⟨rfl, ?_⟩
  unfold b_is_number
  walk_at "mp"
  cases e : decide (a ≤ i) <;> rw [e] at h
  · exact h
  · exact h
theorem side_t (b : Bool) : (sideS b == ("above" : Str) || sideS b == ("below" : Str)) = true := by cases b <;> decide
theorem side_a (b : Bool) : (sideS b == ("above" : Str)) = b := by cases b <;> decide
theorem side_ok (b : Bool) : PySem.PyData.strOk (sideS b) = true := by cases b <;> decide +kernel
theorem side_eq (b : Bool) (x : Str) (h : PySem.PyData.strOk x = true) : EqOk (.str (sideS b)) (.str x) := ok_str (side_ok b) h
theorem w_is_kink {k : Kk} (hk : okK k) (h : W (.bl true) μ) : fnR (n + 1) 2 [kD k] μ ex W := by
  refine fr2 ⟨rfl, ?_⟩
  unfold b_is_kink kD
  walk_at "mp"
  simp only [side_t, Bool.not_true, iteP_false]
  refine w_is_number ?_
  walk_at "mp"
  obtain ⟨⟨h1, h2⟩, h3, h4⟩ := hk
  rw [decide_eq_true h1, decide_eq_true h2]
  refine w_is_number ?_
  rw [decide_eq_true h3, decide_eq_true h4]
  exact h
theorem mul_ok {k : Kk} (hk : okK k) (z : Int) : CMul k.w z := .inl ⟨by have := hk.2.1; omega, by have := hk.2.2; omega⟩
theorem w_kink_cost {k : Kk} {x : Int} (hk : okK k) (h : W (.int (cost k x)) μ) : fnR n 3 [kD k, .int x] μ ex W := by
  refine fr3 ⟨rfl, ?_⟩
  unfold b_kink_cost kD
  walk_at "mp"
  refine ⟨side_eq _ _ (by decide +kernel), ?_⟩
  rw [side_a]
  unfold cost pos at h
  cases hu : k.up <;> simp only [hu, iteP_true, iteP_false, if_true, Bool.false_eq_true, if_false] at h ⊢ <;> exact ⟨mul_ok hk _, h⟩
theorem w_l_kink_cost {k : Kk} {x : Int} (hk : okK k) (h : W (.int (cost k x)) μ) : fnR n 13 [kD k, .int x] μ ex W := by
  refine fr13 ⟨rfl, ?_⟩
  unfold b_l_kink_cost kD
  walk_at "mp"
  refine ⟨side_eq _ _ (by decide +kernel), ?_⟩
  rw [side_a]
  unfold cost pos at h
  cases hu : k.up <;> simp only [hu, iteP_true, iteP_false, if_true, Bool.false_eq_true, if_false] at h ⊢ <;> exact ⟨mul_ok hk _, h⟩
theorem w_plain {ks : List Kk} (h : W (.tup (ks.map kD)) μ) : fnR n 7 [pD ks] μ ex W := by
  refine fr7 ⟨rfl, ?_⟩
  unfold b_Price_plain pD
  walk_at "mp"
  exact h
theorem w_init {ks : List Kk} {a : Addr} (hk : ∀ k, k ∈ ks → okK k) (hl : ks.length ≤ 8) (hm : μ a = some (.ins 0 [])) (h : W .non (μ.set a (.ins 0 [(0, .tup (ks.map kD))]))) : fnR (n + 2) 4 [.loc a, .tup (ks.map kD)] μ ex W := by
  refine fr4 ⟨rfl, ?_⟩
  unfold b_Price_init
  walk_at "mp"
  refine for_keep (I := fun ρ μ' => μ' = μ ∧ ∃ x y, ρ = [some (.loc a), some (.tup (ks.map kD)), x, y]) ⟨rfl, none, none, rfl⟩ ?_ ?_
  · rintro x hx ρ μ' kt ⟨rfl, x2, y2, rfl⟩ _ _ hn
    obtain ⟨i, y, rfl, hi, hy⟩ := mem_enum hx
    obtain ⟨k, hkm, rfl⟩ := List.mem_map.mp hy
    walk_at "mp"
    rw [List.length_map] at hi
    rw [decide_eq_false (by omega)]
    simp only [Bool.not_false, iteP_true]
    refine w_is_kink (hk k hkm) ?_
    walk_at "mp"
    exact (hn _ _ ⟨rfl, _, _, rfl⟩).1
  · rintro ρ μ' ⟨rfl, x, y, rfl⟩
    walk_at "mp"
    unfold setD
    simp only [hm, putD]
    exact ⟨by decide, by rw [gl_lt]; trivial, h⟩
theorem w_price_call {ks : List Kk} {x : Int} (hk : ∀ k, k ∈ ks → okK k) (h : W (.int (total ks x)) μ) : fnR (n + 1) 5 [pD ks, .int x] μ ex W := by
  refine fr5 ⟨rfl, ?_⟩
  unfold b_Price_call pD
  walk_at "mp"
  refine w_is_integer ?_
  walk_at "mp"
  refine ⟨trivial, lc_mapA (f := fun k => .int (cost k x)) (fun k hkm W' hW => ?_) ?_⟩
  · walk_at "mp"
    exact w_kink_cost (hk k hkm) hW
  · rw [List.nil_append, show (ks.map fun k => D.int (cost k x)) = (ks.map (cost · x)).map D.int by simp [Function.comp_def], f_sum]
    exact h
theorem w_any {xs : List D} (h1 : 0 < xs.length) (h2 : xs.length ≤ 1000) (h : ∀ x, x ∈ xs → W x μ) : fnR (n + 1) 10 [.bag, .lst xs] μ ex W := by
  refine fr10 ⟨rfl, ?_⟩
  unfold b_l_any
  walk_at "mp"
  refine ⟨⟨by omega, by omega⟩, fun i h0 hi => ?_⟩
  obtain ⟨j, rfl⟩ := Int.eq_ofNat_of_zero_le h0
  have hj : j < xs.length := by omega
  rw [at_nat (List.getElem?_eq_getElem hj)]
  exact h _ (List.getElem_mem hj)
theorem w_add {ks ls : List Kk} (hk : ∀ k, k ∈ ks → okK k) (hl : ∀ k, k ∈ ls → okK k) (hz : (ks ++ ls).length ≤ 8) (h : W (pD (ks ++ ls)) μ) : fnR (n + 3) 8 [pD ks, pD ls] μ ex W := by
  refine fr8 ⟨rfl, ?_⟩
  unfold b_Price_add pD
  walk_at "mp"
  have hz' := hz
  rw [List.length_append] at hz'
  refine ⟨by rw [sizeLine_eq]; simp; omega, ?_⟩
  rw [decide_eq_false (by simp; omega)]
  simp only [iteP_false]
  intro a ha
  refine ⟨by rw [sizeLine_eq]; simp; omega, ?_⟩
  rw [← List.map_append]
  refine w_init (fun k hkm => (List.mem_append.mp hkm).elim (hk k) (hl k)) hz Mu.set_same ⟨rfl, ?_⟩
  simp only [Mu.set_same, Mu.set_set, Mu.del_set ha]
  exact h
theorem w_alike {ks ls : List Kk} (hk : ∀ k, k ∈ ks → okK k) (hl : ∀ k, k ∈ ls → okK k) (hz : ks.length ≤ 8 ∧ ls.length ≤ 8) (h : W (.bl (sameB ks ls)) μ) : fnR (n + 3) 6 [pD ks, pD ls] μ ex W := by
  refine fr6 ⟨rfl, ?_⟩
  unfold b_Price_alike pD
  walk_at "mp"
  refine w_plain ?_
  walk_at "mp"
  refine ⟨by rw [sizeLine_eq]; simp; omega, trivial, ?_⟩
  rw [← List.map_append]
  refine lc_mapA (f := fun k => .int k.p) (fun k hkm W' hW => ?_) ?_
  · unfold kD
    walk_at "mp"
    exact hW
  · walk_at "mp"
    rw [show ((ks ++ ls).map fun k => D.int k.p) ++ [D.int 0] = (((ks.map (fun k : Kk => k.p) ++ ls.map (fun k : Kk => k.p)) ++ [0]).map D.int) by simp [Function.comp_def]]
    refine ⟨by rw [sizeLine_eq]; simp; omega, ?_⟩
    rw [f_sorted]
    intro l hp hs
    have hlen : l.length = ks.length + ls.length + 1 := by rw [hp.length_eq]; simp [Nat.add_assoc]
    obtain ⟨lo, m, e1⟩ : ∃ lo m, l = lo :: m := by cases l with | nil => simp at hlen | cons a m => exact ⟨a, m, rfl⟩
    obtain ⟨hi, m', e2⟩ : ∃ hi m', l = m' ++ [hi] := by
      have hne : l ≠ [] := by rw [e1]; simp
      exact ⟨l.getLast hne, l.dropLast, (List.dropLast_concat_getLast hne).symm⟩
    walk_at "mp"
    rw [show atI (l.map D.int) 0 = some (.int lo) by rw [e1]; exact at0]
    walk_at "mp"
    rw [show atI (l.map D.int) (-1) = some (.int hi) by rw [e2, List.map_append]; exact at_last]
    walk_at "mp"
    refine ⟨by rw [sizeLine_eq]; simp; omega, by rw [sizeLine_eq]; simp; omega, trivial, ?_⟩
    rw [show D.int (lo - 1) :: (l.map D.int ++ [D.int (hi + 1)]) = ([lo - 1] ++ l ++ [hi + 1]).map D.int by simp]
    refine lc_mapA (f := fun x => .bl (decide (total ks x = total ls x))) (fun x hx W' hW => ?_) ?_
    · walk_at "mp"
      refine w_price_call hk ?_
      walk_at "mp"
      refine w_price_call hl ?_
      walk_at "mp"
      rw [show (total ks x == total ls x) = decide (total ks x = total ls x) from rfl]
      exact hW
    · rw [List.nil_append, show (([lo - 1] ++ l ++ [hi + 1]).map fun x => D.bl (decide (total ks x = total ls x))) = (([lo - 1] ++ l ++ [hi + 1]).map fun x => decide (total ks x = total ls x)).map D.bl by simp [Function.comp_def], f_allB, ends_same hk hl hp hs e1 e2]
      exact h
theorem perm_erase {α : Type} : ∀ {l : List α} {i : Nat} (h : i < l.length), (l[i] :: l.eraseIdx i).Perm l
  | [], _, h => by simp at h
  | a :: l, 0, _ => by simp
  | a :: l, i + 1, h => by
    have ih := perm_erase (l := l) (i := i) (by simpa using h)
    simp only [List.getElem_cons_succ, List.eraseIdx_cons_succ]
    exact (List.Perm.swap _ _ _).trans (ih.cons a)
theorem w_mixed {xs : List D} (h1 : xs.length ≤ 1000) (h : ∀ ys μ', ys.Perm xs → W (.lst ys) μ') : fnR (n + 1) 11 [.bag, .lst xs] μ ex W := by
  refine fr11 ⟨rfl, ?_⟩
  unfold b_l_mixed
  walk_at "mp"
  intro a ha b hb
  have hab : b ≠ a := fun e => by rw [e, Mu.set_same] at hb; cases hb
  refine ⟨⟨by omega, by omega⟩, ?_⟩
  refine for_ix0 (fun i ρ μ' => ∃ x left found, ρ = [some .bag, some (.lst xs), x, some (.loc a), some (.loc b)] ∧ μ' a = some (.lst left) ∧ μ' b = some (.lst found) ∧ (left ++ found).Perm xs ∧ found.length = i) ⟨none, xs, [], rfl, by rw [Mu.set_ne hab.symm, Mu.set_same], Mu.set_same, by simp, rfl⟩ ?_ ?_
  · rintro i x hx ρ μ' kt ⟨x2, left, found, rfl, ma, mb, hp, hf⟩ _ _ hn
    have hlr : (rngD 0 ((xs.length : Int)).toNat).length = xs.length := by simp [rngD]
    have hi : i < xs.length := by rw [← hlr]; exact (List.getElem?_eq_some_iff.mp hx).1
    have hlen : left.length + found.length = xs.length := by rw [← hp.length_eq, List.length_append]
    walk_at "mp"
    simp only [ma, mb, isLstO, Option.getD_some, true_and]
    walk_at "mp"
    refine ⟨⟨by omega, by omega⟩, fun z h0 hz => ?_⟩
    obtain ⟨j, rfl⟩ := Int.eq_ofNat_of_zero_le h0
    have hj : j < left.length := by omega
    simp only [ma]
    refine bs_pop (List.getElem?_eq_getElem hj) (by omega) ?_
    simp only [Mu.set_ne hab, mb]
    rw [bs_app]
    refine ⟨by rw [sizeLine_eq]; omega, (hn _ _ ⟨_, left.eraseIdx j, found ++ [left[j]], rfl, by rw [Mu.set_ne hab.symm, Mu.set_same], Mu.set_same, ?_, by simp [hf]⟩).1⟩
    have p1 := perm_erase hj
    refine List.Perm.trans ?_ hp
    refine List.Perm.trans ?_ (p1.append_right found)
    rw [← List.append_assoc]
    exact List.perm_append_singleton _ _
  · rintro ρ μ' ⟨x2, left, found, rfl, ma, mb, hp, hf⟩
    have hlr : (rngD 0 ((xs.length : Int)).toNat).length = xs.length := by simp [rngD]
    rw [hlr] at hf
    have hle : left = [] := List.eq_nil_of_length_eq_zero (by have := hp.length_eq; rw [List.length_append] at this; omega)
    subst hle
    walk_at "mp"
    simp only [mb]
    exact h _ _ (by simpa using hp)
theorem w_some {m : Int} (h0 : 0 ≤ m ∧ m ≤ 100) (h : ∀ (ks : List Kk) μ', (∀ k, k ∈ ks → okK k) → ks.length ≤ m → W (.lst (ks.map kD)) μ') : fnR (n + 2) 14 [.bag, .int m] μ ex W := by
  refine fr14 ⟨rfl, ?_⟩
  unfold b_l_some_kinks
  walk_at "mp"
  intro a ha
  refine ⟨⟨by omega, by omega⟩, fun z z0 z1 => ⟨⟨by omega, by omega⟩, ?_⟩⟩
  have hlr : (rngD 0 z.toNat).length = z.toNat := by simp [rngD]
  refine for_ix0 (fun i ρ μ' => ∃ x y, ∃ ks : List Kk, ρ = [some .bag, some (.int m), some (.loc a), x, y] ∧ μ' a = some (.lst (ks.map kD)) ∧ (∀ k, k ∈ ks → okK k) ∧ ks.length = i) ⟨none, none, [], rfl, Mu.set_same, fun k hk => (by cases hk), rfl⟩ ?_ ?_
  · rintro i x hx ρ μ' kt ⟨x2, y2, ks, rfl, ma, hk, hf⟩ _ _ hn
    have hi : i < z.toNat := by rw [← hlr]; exact (List.getElem?_eq_some_iff.mp hx).1
    walk_at "mp"
    refine ⟨⟨by omega, by omega⟩, fun q q0 q1 => ?_⟩
    refine w_any (by simp) (by simp) fun d hd => ?_
    have hp : ∃ p : Int, d = .int p ∧ -99 ≤ p ∧ p ≤ 99 := by
      simp only [List.mem_cons, List.not_mem_nil, or_false] at hd
      rcases hd with rfl | rfl | rfl | rfl | rfl | rfl | rfl <;> exact ⟨_, rfl, by omega, by omega⟩
    obtain ⟨p, rfl, p0, p1⟩ := hp
    try walk_at "mp"
    simp only [ma, isLstO, true_and]
    refine w_any (by simp) (by simp) fun d hd => ?_
    have hs : ∃ b : Bool, d = .str (sideS b) := by
      simp only [List.mem_cons, List.not_mem_nil, or_false] at hd
      rcases hd with rfl | rfl
      · exact ⟨true, rfl⟩
      · exact ⟨false, rfl⟩
    obtain ⟨b, rfl⟩ := hs
    try walk_at "mp"
    refine ⟨⟨by omega, by omega⟩, fun v v0 v1 => ?_⟩
    refine w_any (by simp) (by simp) fun d hd => ?_
    have hw : ∃ w : Int, d = .int w ∧ 1 ≤ w ∧ w ≤ 99 := by
      simp only [List.mem_cons, List.not_mem_nil, or_false] at hd
      rcases hd with rfl | rfl | rfl | rfl | rfl <;> exact ⟨_, rfl, by omega, by omega⟩
    obtain ⟨w, rfl, w0, w1⟩ := hw
    simp only [ma, bs_app]
    refine ⟨by rw [sizeLine_eq, List.length_map]; omega, (hn _ _ ⟨_, _, ks ++ [⟨b, p, w⟩], rfl, by rw [Mu.set_same, List.map_append]; rfl, fun k hkm => ?_, by simp [hf]⟩).1⟩
    rcases List.mem_append.mp hkm with hkm | hkm
    · exact hk k hkm
    · simp only [List.mem_singleton] at hkm
      subst hkm
      exact ⟨⟨p0, p1⟩, w0, w1⟩
  · rintro ρ μ' ⟨x2, y2, ks, rfl, ma, hk, hf⟩
    rw [hlr] at hf
    walk_at "mp"
    simp only [ma]
    exact h _ _ hk (by omega)
theorem w_price {ks : List Kk} (hk : ∀ k, k ∈ ks → okK k) (hz : ks.length ≤ 8) (h : ∀ μ', W (pD ks) μ') : fnR (n + 4) 15 [.lst (ks.map kD)] μ ex W := by
  refine fr15 ⟨rfl, ?_⟩
  unfold b_l_price
  walk_at "mp"
  intro a ha
  refine ⟨Nat.zero_le _, w_init (ks := []) (fun k hk => (by cases hk)) (Nat.zero_le _) Mu.set_same ⟨rfl, ?_⟩⟩
  simp only [Mu.set_same]
  refine for_ix0 (fun i ρ μ' => ∃ x, ρ = [some (.lst (ks.map kD)), some (pD (ks.take i)), x]) ⟨none, rfl⟩ ?_ ?_
  · rintro i x hx ρ μ' kt ⟨x2, rfl⟩ _ _ hn
    have hi : i < ks.length := by have := (List.getElem?_eq_some_iff.mp hx).1; simpa using this
    have hx' : x = kD ks[i] := by
      rw [List.getElem?_map, List.getElem?_eq_getElem hi] at hx
      exact (Option.some.inj hx).symm
    subst hx'
    walk_at "mp"
    intro b hb
    refine ⟨by rw [sizeLine_eq]; omega, w_init (ks := [ks[i]]) (fun k hkm => by simp only [List.mem_singleton] at hkm; subst hkm; exact hk _ (List.getElem_mem hi)) (by show 1 ≤ 8; omega) Mu.set_same ⟨rfl, ?_⟩⟩
    simp only [Mu.set_same]
    refine ⟨⟨rfl, rfl⟩, w_add (ks := ks.take i) (ls := [ks[i]]) (fun k hkm => hk k (List.mem_of_mem_take hkm)) (fun k hkm => by simp only [List.mem_singleton] at hkm; subst hkm; exact hk _ (List.getElem_mem hi)) (by simp; omega) ?_⟩
    rw [List.take_append_getElem hi]
    exact (hn _ _ ⟨_, rfl⟩).1
  · rintro ρ μ' ⟨x2, rfl⟩
    rw [List.length_map, List.take_length]
    walk_at "mp"
    exact h _
end
end K42
set_option maxHeartbeats 4000000
namespace K42
open PySem PySem.Spec PyProof.Rows L2 MP
local macro_rules | `(tactic| walk_at "mp") => `(tactic| simp only [Sg.noex, in_ins, sq_tup, sq_lst, if_false, if_true, Bool.false_eq_true, Bool.true_eq_false, Nat.reduceBEq, List.append_nil, List.drop_zero, List.drop_succ_cons, wB, wSs, wS, wE, wEs, wF, wO, wC, wI, start0, bindT, setAll, wipeD, iteP_true, iteP_false, pick, Dc.d, v_int, v_bl, v_str, v_non, v_tup, v_lst, v_ins, v_dct, v_bag, v_loc, t_bl, t_non, t_int, t_str, t_lst, t_tup, t_dct, k_int, k_bl, k_str, k_non, k_tup, k_lst, k_dct, k_ins, i_int, i_bl, i_str, i_lst, i_tup, i_dct, i_non, i_ins, c_eq, c_ne, c_lt, c_le, c_gt, c_ge, c_isN, c_notN, c_inL, c_inT, c_niL, c_niT, n_non, n_int, n_bl, n_str, n_lst, n_tup, n_dct, f_int, f_str, f_bl, f_non, ok_int, ok_bl, la_int, la_bl,   b_addI, b_addS, b_addT, b_addL, b_sub, b_mul, b_mulL, b_fdiv, b_mod, b_pow, f_lenL, f_lenT, f_lenD, f_lenS, f_tupL, f_tupT, f_lstL, f_lstT, f_intI, f_absI, f_max2, f_min2, s_lst, s_tup, o_some, at0, at1, at2, slD_lst, slD_tup, e_int, e_str, e_bl, e_non, e_lst, e_tup, es_nn, es_cc, es_cn, es_nc,   List.map_cons, List.map_nil, List.length_cons, List.length_nil, List.cons_append, List.nil_append, List.getElem?_cons_zero, List.getElem?_cons_succ, List.set_cons_zero, List.set_cons_succ, List.replicate_succ, List.replicate_zero, CEs.len, reduceCtorEq, ne_eq, not_false_eq_true, true_and, and_true, Bool.not_true, Bool.not_false, Nat.reduceAdd, Nat.reduceSub, beq_self_eq_true, List.all_cons, List.all_nil, Bool.and_self, Bool.and_true, Bool.true_and, List.any_cons, List.any_nil, Bool.or_false, Bool.false_or, Bool.true_or, Bool.or_true, List.lookup, Option.getD_some, bne_self_eq_false, decide_true, decide_false, Bool.true_beq, Bool.false_beq, beq_true, beq_false, Int.cast_ofNat_Int, fn0, fn1, fn2, fn3, fn4, fn5, fn6, fn7, fn8, fn_pull, fn10, fn11, fn12, fn13, fn14, fn15, gl_lt, pull_eq])
section
variable {n : Nat} {μ : Mu} {ex W : Po}
theorem like_bl {a b : Bool} (h : W (.bl (a == b)) μ) : fnR n 12 [.bl a, .bl b] μ ex W := by
  refine fr12 ⟨rfl, ?_⟩
  unfold b_l_like
  walk_at "mp"
  cases a <;> cases b <;> exact h
theorem zip_bl : ∀ (xs ys : List Bool), zipD (xs.map D.bl) (ys.map D.bl) = (xs.zip ys).map fun q => D.tup [.bl q.1, .bl q.2]
  | [], _ => by simp [zipD]
  | _ :: _, [] => by simp [zipD]
  | x :: xs, y :: ys => by
    have ih := zip_bl xs ys
    unfold zipD at ih ⊢
    simp only [List.map_cons, List.zipWith_cons_cons, List.zip_cons_cons, ih]
theorem all_zip : ∀ (xs ys : List Bool), xs.length = ys.length → ((xs.zip ys).map fun q => q.1 == q.2).all id = (xs == ys)
  | [], [], _ => rfl
  | [], _ :: _, h => by simp at h
  | _ :: _, [], h => by simp at h
  | x :: xs, y :: ys, h => by
    have ih := all_zip xs ys (by simpa using h)
    simp only [List.zip_cons_cons, List.map_cons, List.all_cons, id, ih]
    rfl
theorem like_bls {xs ys : List Bool} (hl : xs.length = ys.length) (h : W (.bl (xs == ys)) μ) : fnR (n + 1) 12 [.lst (xs.map .bl), .lst (ys.map .bl)] μ ex W := by
  refine fr12 ⟨rfl, ?_⟩
  unfold b_l_like
  walk_at "mp"
  rw [List.length_map, List.length_map, hl]
  walk_at "mp"
  refine ⟨trivial, ?_⟩
  rw [zip_bl]
  refine lc_mapA (f := fun q => .bl (q.1 == q.2)) (fun q hq W' hW => ?_) ?_
  · walk_at "mp"
    exact like_bl hW
  · rw [List.nil_append, show ((xs.zip ys).map fun q => D.bl (q.1 == q.2)) = ((xs.zip ys).map fun q => q.1 == q.2).map D.bl by simp [Function.comp_def], f_allB, all_zip xs ys hl]
    exact h
end
def dropS : CSs → Nat → CSs
  | s, 0 => s
  | .cons _ ss, n + 1 => dropS ss n
  | .nil, _ => .nil
def forBody : CSs → CSs
  | .cons (.for_ _ _ b) _ => b
  | _ => .nil
abbrev lawBody : CSs := forBody b_law
theorem due_same (rows late : List Kk) : (((List.range 203).map fun (i : Nat) => decide (total rows ((0 - 101) + (i : Int)) = total late ((0 - 101) + (i : Int)))).all id) = sameB rows late := by
  unfold sameB
  rw [List.all_map]
  rfl
theorem tail_ok {kt : Kt} {ρ : List Sl} {μ : Mu} {rows late : List Kk} {a0 a2 a3 a4 a5 a7 a9 a10 a11 a12 a13 a14 a15 a16 a17 : Sl} (h1 : ∀ k, k ∈ rows → okK k) (h2 : ∀ k, k ∈ late → okK k) (l1 : rows.length ≤ 8) (l2 : late.length ≤ 8)
    (hn : ∀ (μ' : Mu) (x3 x11 x12 : Sl), kt.nx [a0, some .bag, a2, x3, a4, a5, some (.lst (rows.map kD)), a7, some (.lst (late.map kD)), a9, a10, x11, x12, a13, a14, a15, a16, a17] μ') :
    wSs (GL 6) (dropS lawBody 4) kt [a0, some .bag, a2, a3, a4, a5, some (.lst (rows.map kD)), a7, some (.lst (late.map kD)), a9, a10, a11, a12, a13, a14, a15, a16, a17] μ := by
  simp only [lawBody, forBody, b_law, dropS]
  walk_at "mp"
  refine w_price h1 l1 fun μ1 => ?_
  try walk_at "mp"
  refine w_price h2 l2 fun μ2 => ?_
  try walk_at "mp"
  refine ⟨by omega, by show (rngD _ _).length ≤ _; rw [rng_len, sizeLine_eq]; decide, ?_⟩
  rw [show rngD (0 - 101) ((102 : Int) - (0 - 101)).toNat = (List.range 203).map (fun i : Nat => D.int ((0 - 101) + (i : Int))) from rfl]
  refine lc_mapA (f := fun i : Nat => .bl (decide (total rows ((0 - 101) + (i : Int)) = total late ((0 - 101) + (i : Int))))) (fun i hi W' hW => ?_) ?_
  · try walk_at "mp"
    refine ⟨trivial, lc_mapA (f := fun k => .int (cost k ((0 - 101) + (i : Int)))) (fun k hk W2 hW2 => ?_) ?_⟩
    · walk_at "mp"
      exact w_l_kink_cost (h1 k hk) hW2
    · rw [List.nil_append, show (rows.map fun k => D.int (cost k ((0 - 101) + (i : Int)))) = (rows.map (cost · ((0 - 101) + (i : Int)))).map D.int by simp [Function.comp_def], f_sum]
      try walk_at "mp"
      refine ⟨trivial, lc_mapA (f := fun k => .int (cost k ((0 - 101) + (i : Int)))) (fun k hk W2 hW2 => ?_) ?_⟩
      · walk_at "mp"
        exact w_l_kink_cost (h2 k hk) hW2
      · rw [List.nil_append, show (late.map fun k => D.int (cost k ((0 - 101) + (i : Int)))) = (late.map (cost · ((0 - 101) + (i : Int)))).map D.int by simp [Function.comp_def], f_sum]
        try walk_at "mp"
        exact hW
  · rw [List.nil_append, show ((List.range 203).map fun (i : Nat) => D.bl (decide (total rows ((0 - 101) + (i : Int)) = total late ((0 - 101) + (i : Int))))) = ((List.range 203).map fun (i : Nat) => decide (total rows ((0 - 101) + (i : Int)) = total late ((0 - 101) + (i : Int)))).map D.bl by simp [Function.comp_def], f_allB, due_same]
    simp only [pD]
    try walk_at "mp"
    refine w_alike h1 h2 ⟨l1, l2⟩ ?_
    try walk_at "mp"
    refine w_alike h2 h1 ⟨l2, l1⟩ ?_
    try walk_at "mp"
    refine w_alike h1 h1 ⟨l1, l1⟩ ?_
    try walk_at "mp"
    refine like_bls (xs := [sameB rows late, sameB late rows, sameB rows rows]) (ys := [sameB rows late, sameB rows late, true]) rfl ?_
    rw [sameB_comm late rows, sameB_refl, beq_self_eq_true]
    try walk_at "mp"
    exact hn _ _ _ _
def nthS : CSs → Nat → CS
  | .cons s _, 0 => s
  | .cons _ ss, n + 1 => nthS ss n
  | .nil, _ => .pass
theorem body_eq : lawBody = .cons (nthS lawBody 0) (.cons (nthS lawBody 1) (.cons (nthS lawBody 2) (.cons (nthS lawBody 3) (dropS lawBody 4)))) := rfl
theorem cut_to (l : List Kk) (j : Nat) : MP.cutD (l.map kD) none (some (j : Int)) = (l.take j).map kD := by
  unfold MP.cutD
  rw [HT.sIx_none, HT.sIx_nat, List.drop_zero, Nat.sub_zero, List.length_map, List.map_take]
  by_cases h : j ≤ l.length
  · rw [Nat.min_eq_left h]
  · rw [Nat.min_eq_right (by omega), List.take_of_length_le (by simp), List.take_of_length_le (by simp; omega)]
theorem cut_from (l : List Kk) (j : Nat) : MP.cutD (l.map kD) (some (j : Int)) none = (l.drop j).map kD := by
  unfold MP.cutD
  rw [HT.sIx_none, HT.sIx_nat, List.length_map, List.map_drop, List.take_of_length_le (by simp)]
  by_cases h : j ≤ l.length
  · rw [Nat.min_eq_left h]
  · rw [Nat.min_eq_right (by omega), List.drop_of_length_le (by simp), List.drop_of_length_le (by simp; omega)]
theorem lay_ks : ∀ l : List Kk, layDs (l.map kD) = true
  | [] => rfl
  | k :: l => by
    simp only [List.map_cons, layDs, lay_ks l, Bool.and_true, kD, layD, side_ok]
theorem ne_nil (l : List Kk) : EqLay (.lst (l.map kD)) (.lst []) := ⟨lay_ks l, rfl, by show min _ 1 ≤ 64; omega⟩
theorem eq_nil (l : List Kk) : eqDs (l.map kD) [] = l.isEmpty := by cases l <;> rfl
def iteA : CS → CSs
  | .ite _ a _ => a
  | _ => .nil
abbrev blk : CSs := iteA (nthS lawBody 3)
def kL (l : List Kk) : D := .lst (l.map kD)
section
variable {kt : Kt} {μ : Mu} {a0 a2 a3 a4 a5 a6 a10 a11 a12 a13 a14 a15 a16 a17 : Sl} {late : List Kk} {way at_ : Nat}
abbrev Sl18 (a0 a2 a3 a4 a5 a6 a11 a12 a16 a17 : Sl) (way : Nat) (late : List Kk) (at_ : Nat) (a10 a13 a14 a15 : Sl) : List Sl := [a0, some .bag, a2, a3, a4, a5, a6, some (.int way), some (.lst (late.map kD)), some (.int at_), a10, a11, a12, a13, a14, a15, a16, a17]
theorem blk4 {more : List Kk} (h2 : ∀ k, k ∈ late → okK k) (l2 : late.length ≤ 6) (hm : ∀ k, k ∈ more → okK k) (lm : more.length ≤ 2)
    (tl : ∀ (late : List Kk) (μ : Mu) (b10 b13 b14 b15 : Sl), (∀ k, k ∈ late → okK k) → late.length ≤ 8 → kt.nx (Sl18 a0 a2 a3 a4 a5 a6 a11 a12 a16 a17 way late at_ b10 b13 b14 b15) μ) :
    wSs (GL 6) (dropS blk 4) kt (Sl18 a0 a2 a3 a4 a5 a6 a11 a12 a16 a17 way late at_ (some (.lst (more.map kD))) a13 a14 a15) μ := by
  simp only [lawBody, forBody, b_law, nthS, iteA, dropS, blk]
  walk_at "mp"
  rw [cut_to, show (at_ : Int) + 1 = ((at_ + 1 : Nat) : Int) by omega, cut_from, ← List.map_append, ← List.map_append]
  refine ⟨by rw [sizeLine_eq]; simp; omega, by rw [sizeLine_eq]; simp; omega, tl _ _ _ _ _ _ (fun k hk => ?_) (by simp; omega)⟩
  rcases List.mem_append.mp hk with hk | hk
  · rcases List.mem_append.mp hk with hk | hk
    · exact h2 k (List.mem_of_mem_take hk)
    · exact hm k hk
  · exact h2 k (List.mem_of_mem_drop hk)
def R5 (way : Nat) (b : Bool) (p w : Int) (more : List Kk) : List Kk := if way = 5 then [⟨b, if p - 1 > -99 then p - 1 else -99, w⟩] else more
def R34 (way : Nat) (b : Bool) (p w : Int) (more : List Kk) : List Kk := if way = 3 then [⟨b, p, if w + 1 < 99 then w + 1 else 99⟩] else if way = 4 then [⟨!b, p, w⟩] else more
def R2 (b : Bool) (p w : Int) : List Kk := if 1 < w then [⟨b, p, w - 1⟩, ⟨b, p, 1⟩] else [⟨b, p, w⟩]
theorem blk3 {more : List Kk} {b : Bool} {p w : Int} (tl : ∀ μ, wSs (GL 6) (dropS blk 4) kt (Sl18 a0 a2 a3 a4 a5 a6 a11 a12 a16 a17 way late at_ (some (.lst ((R5 way b p w more).map kD))) (some (.str (sideS b))) (some (.int p)) (some (.int w))) μ) :
    wSs (GL 6) (dropS blk 3) kt (Sl18 a0 a2 a3 a4 a5 a6 a11 a12 a16 a17 way late at_ (some (.lst (more.map kD))) (some (.str (sideS b))) (some (.int p)) (some (.int w))) μ := by
  rw [show dropS blk 3 = .cons (nthS blk 3) (dropS blk 4) from rfl]
  generalize dropS blk 4 = S at tl
  simp only [lawBody, forBody, b_law, nthS, iteA, blk]
  walk_at "mp"
  unfold R5 at tl
  by_cases h : way = 5
  · rw [if_pos h] at tl
    rw [show ((way : Int) == 5) = true by rw [h]; rfl]
    walk_at "mp"
    exact tl μ
  · rw [if_neg h] at tl
    rw [show ((way : Int) == 5) = false by simp; omega]
    walk_at "mp"
    exact tl μ
theorem blk2 {more : List Kk} {b : Bool} {p w : Int} (tl : ∀ μ, wSs (GL 6) (dropS blk 3) kt (Sl18 a0 a2 a3 a4 a5 a6 a11 a12 a16 a17 way late at_ (some (.lst ((R34 way b p w more).map kD))) (some (.str (sideS b))) (some (.int p)) (some (.int w))) μ) :
    wSs (GL 6) (dropS blk 2) kt (Sl18 a0 a2 a3 a4 a5 a6 a11 a12 a16 a17 way late at_ (some (.lst (more.map kD))) (some (.str (sideS b))) (some (.int p)) (some (.int w))) μ := by
  rw [show dropS blk 2 = .cons (nthS blk 2) (dropS blk 3) from rfl]
  generalize dropS blk 3 = S at tl
  simp only [lawBody, forBody, b_law, nthS, iteA, blk]
  walk_at "mp"
  unfold R34 at tl
  by_cases h : way = 3
  · rw [if_pos h] at tl
    rw [show ((way : Int) == 3) = true by rw [h]; rfl]
    walk_at "mp"
    exact tl μ
  · rw [if_neg h] at tl
    rw [show ((way : Int) == 3) = false by simp; omega]
    walk_at "mp"
    by_cases h4 : way = 4
    · rw [if_pos h4] at tl
      rw [show ((way : Int) == 4) = true by rw [h4]; rfl]
      walk_at "mp"
      refine ⟨side_eq _ _ (by decide +kernel), ?_⟩
      rw [side_a]
      cases b <;> (walk_at "mp"; exact tl μ)
    · rw [if_neg h4] at tl
      rw [show ((way : Int) == 4) = false by simp; omega]
      walk_at "mp"
      exact tl μ
theorem blk1 {b : Bool} {p w : Int} (tl : ∀ μ, wSs (GL 6) (dropS blk 2) kt (Sl18 a0 a2 a3 a4 a5 a6 a11 a12 a16 a17 way late at_ (some (.lst ((R2 b p w).map kD))) (some (.str (sideS b))) (some (.int p)) (some (.int w))) μ) :
    wSs (GL 6) (dropS blk 1) kt (Sl18 a0 a2 a3 a4 a5 a6 a11 a12 a16 a17 way late at_ a10 (some (.str (sideS b))) (some (.int p)) (some (.int w))) μ := by
  rw [show dropS blk 1 = .cons (nthS blk 1) (dropS blk 2) from rfl]
  generalize dropS blk 2 = S at tl
  simp only [lawBody, forBody, b_law, nthS, iteA, blk]
  walk_at "mp"
  unfold R2 at tl
  by_cases h : 1 < w
  · rw [if_pos h] at tl
    rw [decide_eq_true h]
    walk_at "mp"
    exact tl μ
  · rw [if_neg h] at tl
    rw [decide_eq_false h]
    walk_at "mp"
    exact tl μ
theorem blk0 {k : Kk} (he : atI (late.map kD) (at_ : Int) = some (kD k)) (tl : ∀ μ, wSs (GL 6) (dropS blk 1) kt (Sl18 a0 a2 a3 a4 a5 a6 a11 a12 a16 a17 way late at_ a10 (some (.str (sideS k.up))) (some (.int k.p)) (some (.int k.w))) μ) :
    wSs (GL 6) blk kt (Sl18 a0 a2 a3 a4 a5 a6 a11 a12 a16 a17 way late at_ a10 a13 a14 a15) μ := by
  rw [show blk = .cons (nthS blk 0) (dropS blk 1) from rfl]
  generalize dropS blk 1 = S at tl
  simp only [lawBody, forBody, b_law, nthS, iteA, blk]
  walk_at "mp"
  simp only [he, kD]
  walk_at "mp"
  exact tl μ
/-- the row at the place becomes one or two rows -/
theorem blk_ok (h2 : ∀ k, k ∈ late → okK k) (l2 : late.length ≤ 6) (hat : at_ < late.length)
    (tl : ∀ (late : List Kk) (μ : Mu) (b10 b13 b14 b15 : Sl), (∀ k, k ∈ late → okK k) → late.length ≤ 8 → kt.nx (Sl18 a0 a2 a3 a4 a5 a6 a11 a12 a16 a17 way late at_ b10 b13 b14 b15) μ) :
    wSs (GL 6) blk kt (Sl18 a0 a2 a3 a4 a5 a6 a11 a12 a16 a17 way late at_ a10 a13 a14 a15) μ := by
  have hk := h2 _ (List.getElem_mem hat)
  have he : atI (late.map kD) (at_ : Int) = some (kD late[at_]) := at_nat (by rw [List.getElem?_map, List.getElem?_eq_getElem hat]; rfl)
  generalize late[at_] = k at hk he
  refine blk0 he fun μ => blk1 fun μ => blk2 fun μ => blk3 fun μ => blk4 h2 l2 ?_ ?_ tl
  · obtain ⟨⟨p0, p1⟩, w0, w1⟩ := hk
    intro j hj
    unfold R5 at hj
    split at hj
    · simp only [List.mem_singleton] at hj
      subst hj
      refine ⟨?_, w0, w1⟩
      show -99 ≤ (if k.p - 1 > -99 then k.p - 1 else -99) ∧ (if k.p - 1 > -99 then k.p - 1 else -99) ≤ 99
      by_cases h : k.p - 1 > -99
      · rw [if_pos h]; omega
      · rw [if_neg h]; omega
    · unfold R34 at hj
      split at hj
      · simp only [List.mem_singleton] at hj
        subst hj
        refine ⟨⟨p0, p1⟩, ?_⟩
        show 1 ≤ (if k.w + 1 < 99 then k.w + 1 else 99) ∧ (if k.w + 1 < 99 then k.w + 1 else 99) ≤ 99
        by_cases h : k.w + 1 < 99
        · rw [if_pos h]; omega
        · rw [if_neg h]; omega
      · split at hj
        · simp only [List.mem_singleton] at hj
          subst hj
          exact ⟨⟨p0, p1⟩, w0, w1⟩
        · unfold R2 at hj
          split at hj
          · simp only [List.mem_cons, List.not_mem_nil, or_false] at hj
            rcases hj with rfl | rfl
            · exact ⟨⟨p0, p1⟩, by show 1 ≤ k.w - 1; omega, by show k.w - 1 ≤ 99; omega⟩
            · exact ⟨⟨p0, p1⟩, by show (1 : Int) ≤ 1; omega, by show (1 : Int) ≤ 99; omega⟩
          · simp only [List.mem_singleton] at hj
            subst hj
            exact ⟨⟨p0, p1⟩, w0, w1⟩
  · unfold R5 R34 R2
    split
    · simp
    · split
      · simp
      · split
        · simp
        · split <;> simp
/-- one turn of the law -/
theorem if4 (h2 : ∀ k, k ∈ late → okK k) (l2 : late.length ≤ 6) {rows : List Kk} (hw : 1 < way → late.length = rows.length) (ha : at_ < max 1 rows.length)
    (tl : ∀ (late : List Kk) (μ : Mu) (b10 b13 b14 b15 : Sl), (∀ k, k ∈ late → okK k) → late.length ≤ 8 → kt.nx (Sl18 a0 a2 a3 a4 a5 (some (.lst (rows.map kD))) a11 a12 a16 a17 way late at_ b10 b13 b14 b15) μ) :
    wS (GL 6) (nthS lawBody 3) kt (Sl18 a0 a2 a3 a4 a5 (some (.lst (rows.map kD))) a11 a12 a16 a17 way late at_ a10 a13 a14 a15) μ := by
  rw [show nthS lawBody 3 = .ite (.bop true (.cmp .gt (.var 7) (.int 1)) (.cmp .ne (.var 6) (.lst false .nil))) blk .nil from rfl]
  have hb : at_ < late.length → wSs (GL 6) blk kt (Sl18 a0 a2 a3 a4 a5 (some (.lst (rows.map kD))) a11 a12 a16 a17 way late at_ a10 a13 a14 a15) μ := fun h => blk_ok h2 l2 h tl
  generalize blk = S at hb
  walk_at "mp"
  by_cases c1 : 1 < way
  · rw [decide_eq_true (by omega : (1 : Int) < (way : Int))]
    walk_at "mp"
    refine ⟨ne_nil rows, ?_⟩
    rw [eq_nil]
    cases hre : rows.isEmpty with
    | true =>
      walk_at "mp"
      exact tl _ _ _ _ _ _ h2 (by omega)
    | false =>
      have hr0 : 0 < rows.length := by cases rows with | nil => cases hre | cons _ _ => simp
      walk_at "mp"
      exact hb (by rw [hw c1]; omega)
  · rw [decide_eq_false (by omega)]
    walk_at "mp"
    exact tl _ _ _ _ _ _ h2 (by omega)
end
end K42
set_option maxHeartbeats 4000000
namespace K42
open PySem PySem.Spec PyProof.Rows L2 MP
local macro_rules | `(tactic| walk_at "mp") => `(tactic| simp only [Sg.noex, in_ins, sq_tup, sq_lst, if_false, if_true, Bool.false_eq_true, Bool.true_eq_false, Nat.reduceBEq, List.append_nil, List.drop_zero, List.drop_succ_cons, wB, wSs, wS, wE, wEs, wF, wO, wC, wI, start0, bindT, setAll, wipeD, iteP_true, iteP_false, pick, Dc.d, v_int, v_bl, v_str, v_non, v_tup, v_lst, v_ins, v_dct, v_bag, v_loc, t_bl, t_non, t_int, t_str, t_lst, t_tup, t_dct, k_int, k_bl, k_str, k_non, k_tup, k_lst, k_dct, k_ins, i_int, i_bl, i_str, i_lst, i_tup, i_dct, i_non, i_ins, c_eq, c_ne, c_lt, c_le, c_gt, c_ge, c_isN, c_notN, c_inL, c_inT, c_niL, c_niT, n_non, n_int, n_bl, n_str, n_lst, n_tup, n_dct, f_int, f_str, f_bl, f_non, ok_int, ok_bl, la_int, la_bl,   b_addI, b_addS, b_addT, b_addL, b_sub, b_mul, b_mulL, b_fdiv, b_mod, b_pow, f_lenL, f_lenT, f_lenD, f_lenS, f_tupL, f_tupT, f_lstL, f_lstT, f_intI, f_absI, f_max2, f_min2, s_lst, s_tup, o_some, at0, at1, at2, slD_lst, slD_tup, e_int, e_str, e_bl, e_non, e_lst, e_tup, es_nn, es_cc, es_cn, es_nc,   List.map_cons, List.map_nil, List.length_cons, List.length_nil, List.cons_append, List.nil_append, List.getElem?_cons_zero, List.getElem?_cons_succ, List.set_cons_zero, List.set_cons_succ, List.replicate_succ, List.replicate_zero, CEs.len, reduceCtorEq, ne_eq, not_false_eq_true, true_and, and_true, Bool.not_true, Bool.not_false, Nat.reduceAdd, Nat.reduceSub, beq_self_eq_true, List.all_cons, List.all_nil, Bool.and_self, Bool.and_true, Bool.true_and, List.any_cons, List.any_nil, Bool.or_false, Bool.false_or, Bool.true_or, Bool.or_true, List.lookup, Option.getD_some, bne_self_eq_false, decide_true, decide_false, Bool.true_beq, Bool.false_beq, beq_true, beq_false, Int.cast_ofNat_Int, fn0, fn1, fn2, fn3, fn4, fn5, fn6, fn7, fn8, fn_pull, fn10, fn11, fn12, fn13, fn14, fn15, gl_lt, pull_eq])
def Row18 (ρ : List Sl) : Prop := ∃ a0 a2 a3 a4 a5 a6 a7 a8 a9 a10 a11 a12 a13 a14 a15 a16 a17 : Sl, ρ = [a0, some .bag, a2, a3, a4, a5, a6, a7, a8, a9, a10, a11, a12, a13, a14, a15, a16, a17]
theorem if3 {kt : Kt} {μ : Mu} {a0 a2 a3 a4 a5 a10 a11 a12 a13 a14 a15 a16 a17 : Sl} {rows late : List Kk} {way at_ : Nat} (h1 : ∀ k, k ∈ rows → okK k) (h2 : ∀ k, k ∈ late → okK k) (l1 : rows.length ≤ 6) (l2 : late.length = rows.length) (ha : at_ < max 1 rows.length) (hn : ∀ ρ' μ', Row18 ρ' → kt.nx ρ' μ') :
    wSs (GL 6) (dropS lawBody 2) kt (Sl18 a0 a2 a3 a4 a5 (some (.lst (rows.map kD))) a11 a12 a16 a17 way late at_ a10 a13 a14 a15) μ := by
  have tl : ∀ (late : List Kk) (μ : Mu) (a2 a3 b10 b13 b14 b15 : Sl), (∀ k, k ∈ late → okK k) → late.length ≤ 8 → wSs (GL 6) (dropS lawBody 4) kt (Sl18 a0 a2 a3 a4 a5 (some (.lst (rows.map kD))) a11 a12 a16 a17 way late at_ b10 b13 b14 b15) μ := fun late μ a2 a3 b10 b13 b14 b15 hl ll =>
    tail_ok (ρ := []) h1 hl (by omega) ll fun μ' x3 x11 x12 => hn _ _ ⟨_, _, _, _, _, _, _, _, _, _, _, _, _, _, _, _, _, rfl⟩
  have st4 : ∀ (late : List Kk) (μ : Mu), (∀ k, k ∈ late → okK k) → late.length ≤ 6 → (1 < way → late.length = rows.length) → wSs (GL 6) (dropS lawBody 3) kt (Sl18 a0 a2 a3 a4 a5 (some (.lst (rows.map kD))) a11 a12 a16 a17 way late at_ a10 a13 a14 a15) μ := fun late μ hl ll hw => by
    rw [show dropS lawBody 3 = .cons (nthS lawBody 3) (dropS lawBody 4) from rfl]
    show wS (GL 6) (nthS lawBody 3) { kt with nx := fun ρ' μ' => wSs (GL 6) (dropS lawBody 4) kt ρ' μ' } _ _
    exact if4 (rows := rows) hl ll hw ha fun late μ b10 b13 b14 b15 q1 q2 => tl late μ a2 a3 b10 b13 b14 b15 q1 q2
  rw [show dropS lawBody 2 = .cons (nthS lawBody 2) (dropS lawBody 3) from rfl]
  generalize dropS lawBody 3 = S at st4
  rw [show nthS lawBody 2 = .ite (.cmp .eq (.var 7) (.int 1)) (.cons (.set 8 (.call 14 (.cons (.var 1) (.cons (.int 6) .nil)) [] .nil [.pos 0, .pos 1])) .nil) .nil from rfl]
  walk_at "mp"
  by_cases c : way = 1
  · rw [show ((way : Int) == 1) = true by rw [c]; rfl]
    walk_at "mp"
    refine w_some (by omega) fun ks μ' hk hl => ?_
    try walk_at "mp"
    exact st4 ks μ' hk (by omega) (by omega)
  · rw [show ((way : Int) == 1) = false by simp; omega]
    walk_at "mp"
    exact st4 late μ h2 (by omega) fun _ => l2
def unD : D → Kk
  | .tup [.str s, .int p, .int w] => ⟨s == ("above" : Str), p, w⟩
  | _ => ⟨true, 0, 0⟩
theorem unD_kD (k : Kk) : unD (kD k) = k := by
  obtain ⟨u, p, w⟩ := k
  show (⟨sideS u == ("above" : Str), p, w⟩ : Kk) = _
  rw [side_a]
theorem perm_kD {ys : List D} {rows : List Kk} (h : ys.Perm (rows.map kD)) : ∃ late : List Kk, late.Perm rows ∧ ys = late.map kD := by
  have all : ∀ y, y ∈ ys → kD (unD y) = y := fun y hy => by
    obtain ⟨k, _, rfl⟩ := List.mem_map.mp (h.mem_iff.mp hy)
    rw [unD_kD]
  refine ⟨ys.map unD, ?_, ?_⟩
  · have q := h.map unD
    rw [List.map_map, show unD ∘ kD = id from funext unD_kD, List.map_id] at q
    exact q
  · rw [List.map_map]
    conv => lhs; rw [← List.map_id ys]
    exact List.map_congr_left fun y hy => (all y hy).symm
theorem turn_ok {kt : Kt} {ρ : List Sl} {μ : Mu} (hI : Row18 ρ) (hn : ∀ ρ' μ', Row18 ρ' → kt.nx ρ' μ') : wSs (GL 6) lawBody kt ρ μ := by
  obtain ⟨a0, a2, a3, a4, a5, a6, a7, a8, a9, a10, a11, a12, a13, a14, a15, a16, a17, rfl⟩ := hI
  have st := @if3 kt
  rw [show lawBody = .cons (nthS lawBody 0) (.cons (nthS lawBody 1) (dropS lawBody 2)) from rfl]
  generalize dropS lawBody 2 = S at st
  rw [show nthS lawBody 0 = .setT [6, 7] (.tup (.cons (.call 14 (.cons (.var 1) (.cons (.int 6) .nil)) [] .nil [.pos 0, .pos 1]) (.cons (.call 9 (.cons (.var 1) (.cons (.int 6) .nil)) [] .nil [.pos 0, .pos 1]) .nil))) from rfl,
    show nthS lawBody 1 = .setT [8, 9] (.tup (.cons (.call 11 (.cons (.var 1) (.cons (.var 6) .nil)) [] .nil [.pos 0, .pos 1]) (.cons (.call 9 (.cons (.var 1) (.cons (.bcall .max (.cons (.int 1) (.cons (.bcall .len (.cons (.var 6) .nil)) .nil))) .nil)) [] .nil [.pos 0, .pos 1]) .nil))) from rfl]
  walk_at "mp"
  refine w_some (by omega) fun rows μ1 hr lr => ?_
  try walk_at "mp"
  refine ⟨⟨by omega, by omega⟩, fun way w0 w1 => ?_⟩
  obtain ⟨way, rfl⟩ := Int.eq_ofNat_of_zero_le w0
  try walk_at "mp"
  refine w_mixed (by rw [List.length_map]; omega) fun ys μ2 hp => ?_
  obtain ⟨late, hpl, rfl⟩ := perm_kD hp
  try walk_at "mp"
  rw [List.length_map]
  have em : (if (rows.length : Int) > 1 then (rows.length : Int) else 1) = ((max 1 rows.length : Nat) : Int) := by split <;> omega
  rw [em]
  refine ⟨⟨by omega, by omega⟩, fun at_ t0 t1 => ?_⟩
  obtain ⟨at_, rfl⟩ := Int.eq_ofNat_of_zero_le t0
  try walk_at "mp"
  exact st hr (fun k hk => hr k (hpl.mem_iff.mp hk)) (by omega) hpl.length_eq (by omega) hn
end K42
set_option maxHeartbeats 4000000
namespace K42
open PySem PySem.Spec PyProof.Rows L2 MP
local macro_rules | `(tactic| walk_at "mp") => `(tactic| simp only [Sg.noex, in_ins, sq_tup, sq_lst, if_false, if_true, Bool.false_eq_true, Bool.true_eq_false, Nat.reduceBEq, List.append_nil, List.drop_zero, List.drop_succ_cons, wB, wSs, wS, wE, wEs, wF, wO, wC, wI, start0, bindT, setAll, wipeD, iteP_true, iteP_false, pick, Dc.d, v_int, v_bl, v_str, v_non, v_tup, v_lst, v_ins, v_dct, v_bag, v_loc, t_bl, t_non, t_int, t_str, t_lst, t_tup, t_dct, k_int, k_bl, k_str, k_non, k_tup, k_lst, k_dct, k_ins, i_int, i_bl, i_str, i_lst, i_tup, i_dct, i_non, i_ins, c_eq, c_ne, c_lt, c_le, c_gt, c_ge, c_isN, c_notN, c_inL, c_inT, c_niL, c_niT, n_non, n_int, n_bl, n_str, n_lst, n_tup, n_dct, f_int, f_str, f_bl, f_non, ok_int, ok_bl, la_int, la_bl,   b_addI, b_addS, b_addT, b_addL, b_sub, b_mul, b_mulL, b_fdiv, b_mod, b_pow, f_lenL, f_lenT, f_lenD, f_lenS, f_tupL, f_tupT, f_lstL, f_lstT, f_intI, f_absI, f_max2, f_min2, s_lst, s_tup, o_some, at0, at1, at2, slD_lst, slD_tup, e_int, e_str, e_bl, e_non, e_lst, e_tup, es_nn, es_cc, es_cn, es_nc,   List.map_cons, List.map_nil, List.length_cons, List.length_nil, List.cons_append, List.nil_append, List.getElem?_cons_zero, List.getElem?_cons_succ, List.set_cons_zero, List.set_cons_succ, List.replicate_succ, List.replicate_zero, CEs.len, reduceCtorEq, ne_eq, not_false_eq_true, true_and, and_true, Bool.not_true, Bool.not_false, Nat.reduceAdd, Nat.reduceSub, beq_self_eq_true, List.all_cons, List.all_nil, Bool.and_self, Bool.and_true, Bool.true_and, List.any_cons, List.any_nil, Bool.or_false, Bool.false_or, Bool.true_or, Bool.or_true, List.lookup, Option.getD_some, bne_self_eq_false, decide_true, decide_false, Bool.true_beq, Bool.false_beq, beq_true, beq_false, Int.cast_ofNat_Int, fn0, fn1, fn2, fn3, fn4, fn5, fn6, fn7, fn8, fn_pull, fn10, fn11, fn12, fn13, fn14, fn15, gl_lt, pull_eq])
theorem mk_p {n : Nat} {μ : Mu} {ex : Po} {Q : D → Mu → Prop} (ks : List Kk) (hk : ∀ k, k ∈ ks → okK k) (hl : ks.length ≤ 8) {a : Addr} (ha : μ a = none) {m : Nat} (hm : m ≤ 8) (h : Q (pD ks) μ) : m ≤ sizeLine ∧ fnR (n + 2) 4 [.loc a, .tup (ks.map kD)] (μ.set a (.ins 0 [])) ex fun v μ3 => v = .non ∧ match μ3 a with | some d => Q d (μ3.del a) | none => False := by
  refine ⟨by rw [sizeLine_eq]; omega, w_init hk hl Mu.set_same ⟨rfl, ?_⟩⟩
  simp only [Mu.set_same, Mu.set_set, Mu.del_set ha]
  exact h
def K1 : List Kk := [⟨true, 0, 2⟩, ⟨false, 0, 2⟩]
def K2 : List Kk := [⟨false, 0, 1⟩, ⟨true, 0, 2⟩, ⟨false, 0, 1⟩]
def K3 : List Kk := [⟨true, 99, 1⟩]
def K4 : List Kk := [⟨false, 0 - 99, 1⟩]
theorem ok1 : ∀ k, k ∈ K1 → okK k := by simp [K1, okK]
theorem ok2 : ∀ k, k ∈ K2 → okK k := by simp [K2, okK]
theorem ok3 : ∀ k, k ∈ K3 → okK k := by simp [K3, okK]
theorem ok4 : ∀ k, k ∈ K4 → okK k := by simp [K4, okK]
theorem ok0 : ∀ k, k ∈ ([] : List Kk) → okK k := by simp
def mM (es : CEs) : CE := .frz (.mk 0 4 es [] .nil [.pos 0, .rest 1])
def mA (x y : CE) : CE := .meth 0 4 6 x (.cons y .nil) [] .nil [.pos 0, .pos 1]
def mT (s : Str) (p : CE) (w : Int) : CE := .tup (.cons (.str s) (.cons p (.cons (.int w) .nil)))
section
variable {ρ : List Sl}
theorem ev_mk {es : CEs} {ks : List Kk} (hk : ∀ k, k ∈ ks → okK k) (hl : ks.length ≤ 8) (hes : ∀ (μ : Mu) (Q : List D → Mu → Prop), Q (ks.map kD) μ → wEs (GL 6) es ρ μ Q) (μ : Mu) (Q : Po) (h : ∀ μ', Q (pD ks) μ') : wE (GL 6) (mM es) ρ μ Q := by
  unfold mM
  walk_at "mp"
  refine hes _ _ ?_
  try walk_at "mp"
  intro a ha
  exact mk_p ks hk hl ha (by rw [List.length_map]; exact hl) (h _)
theorem ev_al {x y : CE} {ks ls : List Kk} (hk : ∀ k, k ∈ ks → okK k) (hl : ∀ k, k ∈ ls → okK k) (hz : ks.length ≤ 8 ∧ ls.length ≤ 8) (hx : ∀ (μ : Mu) (Q : Po), (∀ μ', Q (pD ks) μ') → wE (GL 6) x ρ μ Q) (hy : ∀ (μ : Mu) (Q : Po), (∀ μ', Q (pD ls) μ') → wE (GL 6) y ρ μ Q)
    (μ : Mu) (Q : Po) (h : ∀ μ', Q (.bl (sameB ks ls)) μ') : wE (GL 6) (mA x y) ρ μ Q := by
  unfold mA
  walk_at "mp"
  refine hx _ _ fun μ1 => ?_
  simp only [pD, v_ins]
  refine ⟨⟨by first | trivial | rfl, by first | trivial | rfl⟩, hy _ _ fun μ2 => ?_⟩
  exact w_alike hk hl hz (h _)
end
theorem ev_t1 {ρ : List Sl} (μ : Mu) (Q : List D → Mu → Prop) (h : Q (K3.map kD) μ) : wEs (GL 6) (.cons (mT "above" (.int 99) 1) .nil) ρ μ Q := by
  unfold mT
  walk_at "mp"
  exact h
theorem ev_t2 {ρ : List Sl} (μ : Mu) (Q : List D → Mu → Prop) (h : Q (K4.map kD) μ) : wEs (GL 6) (.cons (mT "below" (.bin .sub (.int 0) (.int 99)) 1) .nil) ρ μ Q := by
  unfold mT
  walk_at "mp"
  exact h
theorem ev_k1 {ρ : List Sl} (μ : Mu) (Q : List D → Mu → Prop) (h : Q (K1.map kD) μ) : wEs (GL 6) (.cons (mT "above" (.int 0) 2) (.cons (mT "below" (.int 0) 2) .nil)) ρ μ Q := by
  unfold mT
  walk_at "mp"
  exact h
theorem ev_k2 {ρ : List Sl} (μ : Mu) (Q : List D → Mu → Prop) (h : Q (K2.map kD) μ) : wEs (GL 6) (.cons (mT "below" (.int 0) 1) (.cons (mT "above" (.int 0) 2) (.cons (mT "below" (.int 0) 1) .nil))) ρ μ Q := by
  unfold mT
  walk_at "mp"
  exact h
theorem ev_k0 {ρ : List Sl} (μ : Mu) (Q : List D → Mu → Prop) (h : Q (([] : List Kk).map kD) μ) : wEs (GL 6) .nil ρ μ Q := by
  walk_at "mp"
  exact h
theorem fin_ok {ρ : List Sl} {μ : Mu} (hI : Row18 ρ) : wSs (GL 6) (dropS b_law 1) { nx := fun _ _ => False, rt := fun d _ => d = .bl true } ρ μ := by
  obtain ⟨a0, a2, a3, a4, a5, a6, a7, a8, a9, a10, a11, a12, a13, a14, a15, a16, a17, rfl⟩ := hI
  rw [show dropS b_law 1 = .cons (.par 4 5 (mM (.cons (mT "above" (.int 0) 2) (.cons (mT "below" (.int 0) 2) .nil))) (mM (.cons (mT "below" (.int 0) 1) (.cons (mT "above" (.int 0) 2) (.cons (mT "below" (.int 0) 1) .nil)))))
    (.cons (.ret (.call 12 (.cons (.lst false (.cons (mA (.var 4) (.var 5)) (.cons (mA (mM .nil) (mM .nil)) (.cons (mA (mM (.cons (mT "above" (.int 99) 1) .nil)) (mM .nil)) (.cons (mA (mM (.cons (mT "below" (.bin .sub (.int 0) (.int 99)) 1) .nil)) (mM .nil)) .nil)))))
      (.cons (.lst false (.cons (.bl true) (.cons (.bl true) (.cons (.bl false) (.cons (.bl false) .nil))))) .nil)) [] .nil [.pos 0, .pos 1])) .nil) from rfl]
  have m1 := fun ρ => @ev_mk ρ _ _ ok1 (by decide) ev_k1
  have m2 := fun ρ => @ev_mk ρ _ _ ok2 (by decide) ev_k2
  have e2 := fun ρ => @ev_al ρ _ _ _ _ ok0 ok0 (by decide) (ev_mk ok0 (by decide) ev_k0) (ev_mk ok0 (by decide) ev_k0)
  have e3 := fun ρ => @ev_al ρ _ _ _ _ ok3 ok0 (by decide) (ev_mk ok3 (by decide) ev_t1) (ev_mk ok0 (by decide) ev_k0)
  have e4 := fun ρ => @ev_al ρ _ _ _ _ ok4 ok0 (by decide) (ev_mk ok4 (by decide) ev_t2) (ev_mk ok0 (by decide) ev_k0)
  have e1 : ∀ (b0 b2 b3 b6 b7 b8 b9 b10 b11 b12 b13 b14 b15 b16 b17 : Sl) (μ : Mu) (Q : Po), (∀ μ', Q (.bl (sameB K1 K2)) μ') → wE (GL 6) (mA (.var 4) (.var 5)) [b0, some .bag, b2, b3, some (pD K1), some (pD K2), b6, b7, b8, b9, b10, b11, b12, b13, b14, b15, b16, b17] μ Q := fun b0 b2 b3 b6 b7 b8 b9 b10 b11 b12 b13 b14 b15 b16 b17 μ Q h =>
    ev_al ok1 ok2 (by decide) (fun μ Q h => by walk_at "mp"; exact h _) (fun μ Q h => by walk_at "mp"; exact h _) μ Q h
  generalize mA (.var 4) (.var 5) = E1 at e1
  generalize mA (mM .nil) (mM .nil) = E2 at e2
  generalize mA (mM (.cons (mT "above" (.int 99) 1) .nil)) (mM .nil) = E3 at e3
  generalize mA (mM (.cons (mT "below" (.bin .sub (.int 0) (.int 99)) 1) .nil)) (mM .nil) = E4 at e4
  generalize mM (.cons (mT "above" (.int 0) 2) (.cons (mT "below" (.int 0) 2) .nil)) = F1 at m1
  generalize mM (.cons (mT "below" (.int 0) 1) (.cons (mT "above" (.int 0) 2) (.cons (mT "below" (.int 0) 1) .nil))) = F2 at m2
  walk_at "mp"
  refine m1 _ _ _ fun μ1 => m2 _ _ _ fun μ2 => ?_
  try walk_at "mp"
  refine e1 _ _ _ _ _ _ _ _ _ _ _ _ _ _ _ _ _ fun μ3 => e2 _ _ _ fun μ4 => e3 _ _ _ fun μ5 => e4 _ _ _ fun μ6 => ?_
  refine like_bls (xs := [sameB K1 K2, sameB [] [], sameB K3 [], sameB K4 []]) (ys := [true, true, false, false]) rfl ?_
  rw [show ([sameB K1 K2, sameB [] [], sameB K3 [], sameB K4 []] == [true, true, false, false]) = true by decide +kernel]
theorem says : LawSays 6 := by
  unfold LawSays
  rw [show b_law = .cons (.for_ (.one 2) (.rng1 (.int 6)) lawBody) (dropS b_law 1) from rfl]
  have st : ∀ {kt : Kt} {ρ : List Sl} {μ : Mu}, Row18 ρ → (∀ ρ' μ', Row18 ρ' → kt.nx ρ' μ') → wSs (GL 6) lawBody kt ρ μ := turn_ok
  have fin : ∀ (ρ : List Sl) (μ : Mu), Row18 ρ → wSs (GL 6) (dropS b_law 1) { nx := fun _ _ => False, rt := fun d _ => d = .bl true } ρ μ := fun ρ μ hI => fin_ok hI
  generalize dropS b_law 1 = S at fin
  generalize lawBody = Bd at st
  walk_at "mp"
  refine ⟨by omega, for_keep (I := fun ρ _ => Row18 ρ) ⟨_, _, _, _, _, _, _, _, _, _, _, _, _, _, _, _, _, rfl⟩ ?_ ?_⟩
  · rintro x hx ρ μ kt hI _ _ hn
    obtain ⟨a0, a2, a3, a4, a5, a6, a7, a8, a9, a10, a11, a12, a13, a14, a15, a16, a17, rfl⟩ := hI
    walk_at "mp"
    exact st ⟨_, _, _, _, _, _, _, _, _, _, _, _, _, _, _, _, _, rfl⟩ fun ρ' μ' h' => (hn ρ' μ' h').1
  · exact fun ρ μ hI => fin ρ μ hI
end K42
set_option maxHeartbeats 0
namespace K42
open PySem PySem.Spec PyProof.Rows L2 MP
def dd0 (x : Str) (st : Stmt) : He.DefD := { at_ := (x, none), name := x, qual := x, params := defArgs st, body := defBody st, scope := defScope st }
def fn : List He.DefD := PP.rows.map Row.dd ++ [dd0 "_law_draws" s_l_draws, dd0 "law" s_law]
def chk (K : PySem.W.Frag) : Bool := progOk PP K && ((He.Fa.glo "_law_draws").ok K && (He.Fa.glo "law").ok K)
abbrev R : PySem.W.OpenRow := PySem.W.OpenLaw.row PySem.Challenge.rw_onekink_k42_prices_that_cost_the_same
abbrev hk : PySem.W.Hook := hookM 5 chk fn
def ob (s : PySem.W.SharedT) : MP.Seen := lookM 5 chk fn (HandSHeadRun.getT s)
theorem ob_eq (s : PySem.W.SharedT) : ob s = hk.obs s.abs := look_eq (HandSHeadRun.getT_eq s)
theorem run (w : World) : HandSHeadRun.RunEq R (PySem.W.view R.prog [lawIx]) hk ob 12000 loose w := by
  intro os
  kernel_rfl
end K42
set_option maxHeartbeats 4000000
namespace K42
open PySem PySem.Spec PyProof.Rows L2 MP
theorem facts {n : Nat} (hs : LawSays n) {P : Program} {w : World} {K : PySem.W.Frag} {h : Heap} {mg : Str → Option Value} {f : Addr} (X : K.In h) (G : h.Ns mainGlobals mg) (hfa : mg ("law" : Str) = some (.ref f)) (c : seen chk fn K = due fn) :
    ∃ fd : FuncData, (∀ (s : Shared) (v : Value), BindsTo s fd ⟨[v], []⟩ [("_law_script", v)]) ∧ ∀ base : Heap, K.In base → base.Ns mainGlobals mg → FnOk P w K mg base CX0 (2 * n + 2) f fd p_law (spLaw K) := by
  have hc := seen_chk c
  simp only [chk, Bool.and_eq_true] at hc
  obtain ⟨hp, hd, hl⟩ := hc
  have gd := He.glo_ok X G hd
  have gl := He.glo_ok X G hl
  have rf : ∀ (i : Nat) (r : MP.Row), PP.rows[i]? = some r → RowF K r := fun i r hr => by
    have hlt := (List.getElem?_eq_some_iff.mp hr).1
    obtain ⟨fd, F⟩ := seen_def c (i := i) (d := r.dd) (by
      unfold fn
      rw [List.getElem?_append_left (by simpa using hlt), List.getElem?_map, hr]; rfl)
    exact rowF_of F
  have Fa := facts_of X G hp rf
  obtain ⟨fD, FD⟩ := seen_def c (i := PP.rows.length) (d := dd0 "_law_draws" s_l_draws) rfl
  obtain ⟨fd, F⟩ := seen_def c (i := PP.rows.length + 1) (d := dd0 "law" s_law) rfl
  have FD' : FnP K "_law_draws" s_l_draws (He.ga K "_law_draws") fD := FD
  have F' : FnP K "law" s_law (He.ga K "law") fd := F
  have e := hfa.symm.trans gl
  cases e
  have b := FunD.bindsA (ps := p_law) F' fun _ _ _ _ _ _ us hl => match us, hl with | [_], _ => rfl
  refine ⟨fd, fun s v => b s [v] rfl, fun base _ _ => ?_⟩
  have hpull : CallOk PP pinj P w K mg base 2 jPull pPull := pull_row (by rfl) (rf jPull r_l_pull (by rfl)) (Fa.bl _ (by simp [blN])) (Fa.bl _ (by simp [blN]))
  have SG := sg_all (P := PP) (hi := pinj) (Pg := P) (w := w) (base := base) (hand := handP) Fa (fun i r hr hn => ⟨rf i r hr, rows_ok i r hr hn⟩) (fun i p hp => by
    unfold handP at hp
    split at hp
    · rename_i e; subst e; cases hp; exact hpull
    · cases hp) n
  exact ok_law hs F' FD' gd (Fa.bl _ (by simp [blN])) SG
end K42
open PySem PySem.W PySem.Calls PyProof.Rows
theorem K42.the_end {n : Nat} (hs : K42.LawSays n) (hn : L2.Room (2 * n + 2) callerA) : PySem.Challenge.rw_onekink_k42_prices_that_cost_the_same.Holds := by
  w_on; o_law
  refine HandSHeadRun.head_any (r := OpenLaw.row PySem.Challenge.rw_onekink_k42_prices_that_cost_the_same) (q := view (OpenLaw.row PySem.Challenge.rw_onekink_k42_prices_that_cost_the_same).prog [K42.lawIx]) (H := K42.hk) (ob := K42.ob) (M := 12000) (loose := K42.loose) (d := HandSHeadRun.topDef (OpenLaw.row PySem.Challenge.rw_onekink_k42_prices_that_cost_the_same).prog K42.lawIx) (kwd := []) K42.ob_eq
    (by kernel_rfl) (fun s => by kernel_rfl) K42.run (by kernel_rfl) (by kernel_rfl) (by kernel_rfl) (by rfl) (by first | assumption | decide +kernel) (by decide +kernel) ⟨rfl, rfl, rfl, rfl, rfl, by decide +kernel⟩ ?hw ?hc
  case hw => w_witness2
  case hc =>
    refine L2.walk_ofE (l := PySem.Challenge.rw_onekink_k42_prices_that_cost_the_same) (n := 63) (k := 2 * n + 2) (x := "_law_script") (CX := L2.CX0) rfl (by decide) (by kernel_rfl) hn ?F (fun _ _ _ _ z => z)
    intro w mg fa h Y G hmg0
    obtain ⟨K, KX, c⟩ := Y
    have hmg : mg ("law" : PySem.Str) = some (.ref fa) := by
      have e : (HandSHeadRun.topDef (OpenLaw.row PySem.Challenge.rw_onekink_k42_prices_that_cost_the_same).prog K42.lawIx).name = ("law" : PySem.Str) := by kernel_rfl
      rw [← e]
      exact hmg0
    obtain ⟨fd, hb, hF⟩ := K42.facts hs (P := (PySem.Challenge.rw_onekink_k42_prices_that_cost_the_same).prog) (w := w) KX G hmg c
    exact ⟨K, fd, K42.spLaw K, KX, hb, fun H a ns hl _ hS => ⟨a, ns, rfl, hS, fun _ => rfl⟩, hF⟩
theorem PySem.Challenge.cw_onekink_k42_prices_that_cost_the_same_holds : PySem.Challenge.rw_onekink_k42_prices_that_cost_the_same.Holds :=
  K42.the_end K42.says ⟨rfl, by decide, by decide⟩
