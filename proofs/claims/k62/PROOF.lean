import PyProof.Rows.All
import Wide.All
import OpenK.AllK
import Wide.FinOn
import HandS.ForMost
import HandS.ForExc
import HandS.CallSlots
import HandS.Flow
import HandS.Style
import HandS.TupAny
import HandS.TupMul
import HandS.Wide
import HandS.Zip
import HandS.IsInst
import HandS.Deep
import HandS.SortInts
import HandS.DictComp
import HandS.ExcCtx
import HandS.HotCalls
import HandS.ExcInit
import HandS.ExcInitHot
import HandS.ExcField
import HandS.SuiteRaise
import HandS.SortRule
import KE.GoesMore
import KE.GoesEnum
import HandS.TupLen
import HandS.Small
import HandS.SortOrd
import HandS.Conv
import PySem.Challenge.RW_movesworth_k62_whole_strings_and_rings_o
section S_DLa
set_option Elab.async false
set_option linter.all false
set_option maxRecDepth 100000
set_option autoImplicit false
/-! The data layer: data D, a store Sto, and what a piece of Python reckons over them, as a plain function. -/
namespace DL
open PySem PySem.Spec PyProof.Rows L2

/-! ### data -/
inductive D where
  | non | bl (b : Bool) | int (i : Int) | str (x : Str) | tup (ds : List D) | ref (n : Nat)
deriving Inhabited

inductive O where
  | lst (ds : List D)
  | dk (kvs : List (Key × D))
  | dg (kvs : List (List D × D))
  | lk (o : O)
deriving Inhabited

structure Sto where
  sz : Nat
  objs : List O

def Sto.get (s : Sto) (n : Nat) : Option O := if n < s.sz then s.objs[s.sz - 1 - n]? else none
def Sto.put (s : Sto) (n : Nat) (o : O) : Sto := ⟨s.sz, s.objs.set (s.sz - 1 - n) o⟩
def Sto.push (s : Sto) (o : O) : Sto := ⟨s.sz + 1, o :: s.objs⟩
def Sto.pop (s : Sto) (b : Nat) : Sto := ⟨b, s.objs.drop (s.sz - b)⟩

@[simp] theorem sz_put (s : Sto) (n o) : (s.put n o).sz = s.sz := rfl
@[simp] theorem sz_push (s : Sto) (o) : (s.push o).sz = s.sz + 1 := rfl
@[simp] theorem sz_pop (s : Sto) (b) : (s.pop b).sz = b := rfl
theorem get_lt {s : Sto} {n : Nat} {o : O} (h : s.get n = some o) : n < s.sz := by
  unfold Sto.get at h
  split at h
  · assumption
  · cases h
theorem get_push_self (s : Sto) (o : O) : (s.push o).get s.sz = some o := by
  unfold Sto.get Sto.push
  simp
theorem get_push_old {s : Sto} {o : O} {n : Nat} (h : n < s.sz) : (s.push o).get n = s.get n := by
  unfold Sto.get Sto.push
  have e : s.sz + 1 - 1 - n = (s.sz - 1 - n) + 1 := by omega
  simp only [if_pos (Nat.lt_succ_of_lt h), if_pos h, e, List.getElem?_cons_succ]
theorem get_push_ne {s : Sto} {o : O} {n : Nat} (h : n ≠ s.sz) : (s.push o).get n = s.get n := by
  by_cases q : n < s.sz
  · exact get_push_old q
  · unfold Sto.get Sto.push
    have q2 : ¬ n < s.sz + 1 := by omega
    simp only [if_neg q, if_neg q2]
theorem get_put_self {s : Sto} {n : Nat} {o u : O} (h : s.get n = some u) : (s.put n o).get n = some o := by
  have hl := get_lt h
  unfold Sto.get at h
  rw [if_pos hl] at h
  unfold Sto.get Sto.put
  simp only [if_pos hl]
  rw [List.getElem?_set_self (List.getElem?_eq_some_iff.mp h).1]
theorem get_put_ne {s : Sto} {n k : Nat} {o : O} (h : k ≠ n) (hn : n < s.sz) : (s.put n o).get k = s.get k := by
  unfold Sto.get Sto.put
  by_cases q : k < s.sz
  · simp only [if_pos q]
    rw [List.getElem?_set_ne]
    omega
  · simp only [if_neg q]
theorem get_pop {s : Sto} {b n : Nat} (hb : b ≤ s.sz) (h : n < b) : (s.pop b).get n = s.get n := by
  unfold Sto.get Sto.pop
  have q : n < s.sz := by omega
  have e : s.sz - b + (b - 1 - n) = s.sz - 1 - n := by omega
  simp only [if_pos h, if_pos q, List.getElem?_drop, e]
theorem get_pop_none {s : Sto} {b n : Nat} (h : b ≤ n) : (s.pop b).get n = none := by
  unfold Sto.get Sto.pop
  rw [if_neg (by show ¬ n < b; omega)]
@[simp] theorem pop_push (s : Sto) (o : O) : (s.push o).pop s.sz = s := by
  unfold Sto.pop Sto.push
  simp
theorem pop_self (s : Sto) : s.pop s.sz = s := by
  unfold Sto.pop
  simp

/-! ### no place above c is spoken of -/
mutual
def D.lo (c : Nat) : D → Bool
  | .ref n => Nat.blt n c
  | .tup ds => D.los c ds
  | _ => true
def D.los (c : Nat) : List D → Bool
  | [] => true
  | d :: r => d.lo c && D.los c r
end
def O.lo (c : Nat) : O → Bool
  | .lst ds => D.los c ds
  | .dk kvs => kvs.all fun p => p.2.lo c
  | .dg kvs => kvs.all fun p => D.los c p.1 && p.2.lo c
  | .lk o => o.lo c

theorem los_all (c : Nat) : ∀ ds : List D, D.los c ds = ds.all (D.lo c)
  | [] => rfl
  | d :: r => by
    show (d.lo c && D.los c r) = _
    rw [los_all c r]
    rfl
mutual
theorem lo_mono {c c' : Nat} (h : c ≤ c') : ∀ d : D, d.lo c = true → d.lo c' = true
  | .ref n, q => by
    unfold D.lo at q ⊢
    rw [Nat.blt_eq] at q ⊢
    omega
  | .tup ds, q => by
    unfold D.lo at q ⊢
    exact los_mono h ds q
  | .non, _ => rfl
  | .bl _, _ => rfl
  | .int _, _ => rfl
  | .str _, _ => rfl
theorem los_mono {c c' : Nat} (h : c ≤ c') : ∀ ds : List D, D.los c ds = true → D.los c' ds = true
  | [], _ => rfl
  | d :: r, q => by
    have q : (d.lo c && D.los c r) = true := q
    show (d.lo c' && D.los c' r) = true
    rw [Bool.and_eq_true] at q ⊢
    exact ⟨lo_mono h d q.1, los_mono h r q.2⟩
end
theorem O.lo_mono {c c' : Nat} (h : c ≤ c') : ∀ o : O, o.lo c = true → o.lo c' = true
  | .lst ds, q => los_mono h ds q
  | .dk kvs, q => by
    unfold O.lo at q ⊢
    rw [List.all_eq_true] at q ⊢
    exact fun p hp => DL.lo_mono h _ (q p hp)
  | .dg kvs, q => by
    unfold O.lo at q ⊢
    rw [List.all_eq_true] at q ⊢
    intro p hp
    have := q p hp
    rw [Bool.and_eq_true] at this ⊢
    exact ⟨los_mono h _ this.1, DL.lo_mono h _ this.2⟩
  | .lk o, q => O.lo_mono h o q

/-- what stands below b speaks of no more than it did -/
structure Old (b : Nat) (s s' : Sto) : Prop where
  le : s.sz ≤ s'.sz
  lo : ∀ n, n < b → ∀ o', s'.get n = some o' → ∃ o, s.get n = some o ∧ ∀ c, o.lo c = true → o'.lo c = true
theorem Old.refl (b : Nat) (s : Sto) : Old b s s := ⟨Nat.le_refl _, fun n _ o h => ⟨o, h, fun _ q => q⟩⟩
theorem Old.trans {b : Nat} {s s1 s2 : Sto} (x : Old b s s1) (y : Old b s1 s2) : Old b s s2 :=
  ⟨Nat.le_trans x.le y.le, fun n hn o h => by
    obtain ⟨o1, h1, q1⟩ := y.lo n hn o h
    obtain ⟨o2, h2, q2⟩ := x.lo n hn o1 h1
    exact ⟨o2, h2, fun c q => q1 c (q2 c q)⟩⟩
theorem Old.mono {b b' : Nat} {s s' : Sto} (x : Old b s s') (h : b' ≤ b) : Old b' s s' := ⟨x.le, fun n hn => x.lo n (Nat.lt_of_lt_of_le hn h)⟩
theorem Old.push {b : Nat} {s : Sto} (o : O) (h : b ≤ s.sz) : Old b s (s.push o) :=
  ⟨Nat.le_succ _, fun n hn u q => by
    rw [get_push_old (Nat.lt_of_lt_of_le hn h)] at q
    exact ⟨u, q, fun _ z => z⟩⟩
theorem Old.put {b n : Nat} {s : Sto} {o u : O} (h : s.get n = some u) (q : b ≤ n ∨ ∀ c, u.lo c = true → o.lo c = true) : Old b s (s.put n o) :=
  ⟨Nat.le_refl _, fun k hk o' z => by
    by_cases e : k = n
    · subst e
      rw [get_put_self h] at z
      cases z
      rcases q with q | q
      · omega
      · exact ⟨u, h, q⟩
    · rw [get_put_ne e (get_lt h)] at z
      exact ⟨o', z, fun _ z => z⟩⟩

/-! ### how data lie in the heap -/
abbrev Mp := Nat → Option Addr
mutual
inductive Rep (K : PySem.W.Frag) (m : Mp) (H : Hp) : D → V → Prop
  | non : Rep K m H .non .non
  | bl (b : Bool) : Rep K m H (.bl b) (.bl b)
  | int (i : Int) : Rep K m H (.int i) (.int i)
  | str (x : Str) : Rep K m H (.str x) (.str x)
  | ref {n : Nat} {a : Addr} : m n = some a → Rep K m H (.ref n) (.ref a)
  | tup {a : Addr} {ds : List D} {vs : List V} : SqT K H a vs → RepL K m H ds vs → Rep K m H (.tup ds) (.ref a)
inductive RepL (K : PySem.W.Frag) (m : Mp) (H : Hp) : List D → List V → Prop
  | nil : RepL K m H [] []
  | cons {d : D} {v : V} {ds : List D} {vs : List V} : Rep K m H d v → RepL K m H ds vs → RepL K m H (d :: ds) (v :: vs)
end
/-- from the heap H (places m) to H' (places m') -/
structure Ext (m : Mp) (H : Hp) (m' : Mp) (H' : Hp) : Prop where
  mm : ∀ n a, m n = some a → m' n = some a
  nw : ∀ n a, m' n = some a → m n = some a ∨ H a = none
  fr : ∀ a o, H a = some o → (∀ n, m n ≠ some a) → H' a = some o
  th : ∀ a o, H a = some o → ∃ o', H' a = some o'
  tt : ∀ a xs, Rd H a (.tup xs) → Rd H' a (.tup xs)
  ff : ∀ a ob u, H a = some (.frz ob u) → H' a = some (.frz ob u)
section
variable {K : PySem.W.Frag} {m m' m1 m2 : Mp} {H H' H1 H2 : Hp}
theorem Ext.refl (m : Mp) (H : Hp) : Ext m H m H := ⟨fun _ _ h => h, fun _ _ h => .inl h, fun _ _ h _ => h, fun _ o h => ⟨o, h⟩, fun _ _ h => h, fun _ _ _ h => h⟩
theorem Ext.trans (x : Ext m H m1 H1) (y : Ext m1 H1 m2 H2) : Ext m H m2 H2 where
  mm := fun n a h => y.mm n a (x.mm n a h)
  nw := fun n a h => by
    rcases y.nw n a h with h | h
    · exact x.nw n a h
    · right
      cases q : H a with
      | none => rfl
      | some o =>
        obtain ⟨o', e⟩ := x.th a o q
        rw [e] at h
        cases h
  fr := fun a o h q => y.fr a o (x.fr a o h q) fun n e => by
    rcases x.nw n a e with z | z
    · exact q n z
    · rw [h] at z
      cases z
  th := fun a o h => by
    obtain ⟨o1, h1⟩ := x.th a o h
    exact y.th a o1 h1
  tt := fun a xs h => y.tt a xs (x.tt a xs h)
  ff := fun a ob u h => y.ff a ob u (x.ff a ob u h)
theorem Ext.sqT {a : Addr} {xs : List V} (x : Ext m H m' H') (h : SqT K H a xs) : SqT K H' a xs := by
  rcases h with h | h
  · exact .inl (x.tt a xs h)
  · exact .inr h
mutual
theorem Rep.mono (x : Ext m H m' H') : ∀ {d : D} {v : V}, Rep K m H d v → Rep K m' H' d v
  | _, _, .non => .non
  | _, _, .bl b => .bl b
  | _, _, .int i => .int i
  | _, _, .str z => .str z
  | _, _, .ref h => .ref (x.mm _ _ h)
  | _, _, .tup h r => .tup (x.sqT h) (RepL.mono x r)
theorem RepL.mono (x : Ext m H m' H') : ∀ {ds : List D} {vs : List V}, RepL K m H ds vs → RepL K m' H' ds vs
  | _, _, .nil => .nil
  | _, _, .cons h r => .cons (Rep.mono x h) (RepL.mono x r)
end
theorem RepL.length {ds : List D} {vs : List V} : RepL K m H ds vs → ds.length = vs.length
  | .nil => rfl
  | .cons _ r => by rw [List.length_cons, List.length_cons, RepL.length r]
theorem RepL.get {i : Nat} : ∀ {ds : List D} {vs : List V} {i : Nat} {d : D}, RepL K m H ds vs → ds[i]? = some d → ∃ v, vs[i]? = some v ∧ Rep K m H d v
  | _, _, _, _, .nil, e => by simp at e
  | _, _, 0, _, .cons h _, e => by
    simp at e
    subst e
    exact ⟨_, rfl, h⟩
  | _, _, i + 1, d, .cons _ r, e => by
    obtain ⟨v, h1, h2⟩ := RepL.get (i := i) r (by simpa using e)
    exact ⟨v, by simpa using h1, h2⟩
theorem RepL.append : ∀ {ds es : List D} {vs ws : List V}, RepL K m H ds vs → RepL K m H es ws → RepL K m H (ds ++ es) (vs ++ ws)
  | _, _, _, _, .nil, s => s
  | _, _, _, _, .cons h r, s => .cons h (RepL.append r s)
theorem RepL.take : ∀ {ds : List D} {vs : List V} (n : Nat), RepL K m H ds vs → RepL K m H (ds.take n) (vs.take n)
  | _, _, 0, _ => .nil
  | _, _, _ + 1, .nil => .nil
  | _, _, n + 1, .cons h r => .cons h (RepL.take n r)
theorem RepL.drop : ∀ {ds : List D} {vs : List V} (n : Nat), RepL K m H ds vs → RepL K m H (ds.drop n) (vs.drop n)
  | _, _, 0, r => r
  | _, _, _ + 1, .nil => .nil
  | _, _, n + 1, .cons _ r => RepL.drop n r
theorem RepL.set {d : D} {v : V} (h : Rep K m H d v) : ∀ {ds : List D} {vs : List V} (i : Nat), RepL K m H ds vs → RepL K m H (ds.set i d) (vs.set i v)
  | _, _, _, .nil => .nil
  | _, _, 0, .cons _ r => .cons h r
  | _, _, i + 1, .cons q r => .cons q (RepL.set h i r)
theorem RepL.reverse {ds : List D} {vs : List V} (r : RepL K m H ds vs) : RepL K m H ds.reverse vs.reverse := by
  induction ds generalizing vs with
  | nil =>
    cases r
    exact .nil
  | cons d ds ih =>
    cases r with
    | cons h r =>
      rw [List.reverse_cons, List.reverse_cons]
      exact (ih r).append (.cons h .nil)
theorem RepL.ints {is : List Int} : RepL K m H (is.map D.int) (is.map V.int) := by
  induction is with
  | nil => exact .nil
  | cons i is ih => exact .cons (.int i) ih
theorem RepL.of_ints : ∀ {is : List Int} {vs : List V}, RepL K m H (is.map D.int) vs → vs = is.map V.int
  | [], _, r => by
    cases r
    rfl
  | i :: is, _, r => by
    cases r with
    | cons h r =>
      cases h
      rw [RepL.of_ints r]
      rfl
mutual
/-- the places above b forgotten -/
theorem Rep.cut {b : Nat} (e : ∀ n, n < b → m' n = m n) : ∀ {d : D} {v : V}, d.lo b = true → Rep K m H d v → Rep K m' H d v
  | _, _, _, .non => .non
  | _, _, _, .bl b => .bl b
  | _, _, _, .int i => .int i
  | _, _, _, .str z => .str z
  | .ref n, _, q, .ref h => .ref (by
      rw [e n (by
        unfold D.lo at q
        rwa [Nat.blt_eq] at q)]
      exact h)
  | .tup ds, _, q, .tup h r => .tup h (RepL.cut e (by unfold D.lo at q; exact q) r)
theorem RepL.cut {b : Nat} (e : ∀ n, n < b → m' n = m n) : ∀ {ds : List D} {vs : List V}, D.los b ds = true → RepL K m H ds vs → RepL K m' H ds vs
  | _, _, _, .nil => .nil
  | d :: ds, _, q, .cons h r => by
    have q : (d.lo b && D.los b ds) = true := q
    rw [Bool.and_eq_true] at q
    exact .cons (Rep.cut e q.1 h) (RepL.cut e q.2 r)
end
mutual
/-- what is told speaks of known places alone -/
theorem Rep.low {b : Nat} (e : ∀ n a, m n = some a → n < b) : ∀ {d : D} {v : V}, Rep K m H d v → d.lo b = true
  | _, _, .non => rfl
  | _, _, .bl b => rfl
  | _, _, .int i => rfl
  | _, _, .str z => rfl
  | .ref n, _, .ref h => by
    unfold D.lo
    rw [Nat.blt_eq]
    exact e n _ h
  | .tup ds, _, .tup h r => by
    unfold D.lo
    exact RepL.low e r
theorem RepL.low {b : Nat} (e : ∀ n a, m n = some a → n < b) : ∀ {ds : List D} {vs : List V}, RepL K m H ds vs → D.los b ds = true
  | _, _, .nil => rfl
  | d :: ds, _, .cons h r => by
    show (d.lo b && D.los b ds) = true
    rw [Bool.and_eq_true]
    exact ⟨Rep.low e h, RepL.low e r⟩
end
end
mutual
/-- may be (in) a key, at most n tuples deep -/
def D.gk : Nat → D → Bool
  | _, .int _ => true
  | _, .str x => PyData.strOk x
  | n + 1, .tup ds => D.gks n ds
  | _, _ => false
def D.gks : Nat → List D → Bool
  | _, [] => true
  | n, d :: r => D.gk n d && D.gks n r
end
end DL
end S_DLa
section S_DLb
set_option Elab.async false
set_option linter.all false
set_option maxRecDepth 100000
set_option autoImplicit false
namespace DL
open PySem PySem.Spec PyProof.Rows L2

/-! ### objects of the store -/
abbrev SV := List (Option V)
abbrev LIM : Nat := 1000000
-- the hash of a key's item
mutual
def ghash (w : World) : D → Int
  | .int i => hashInt i
  | .str x => hashStr w x
  | .tup ds => reduceHash (Builtin.Tuple.tupleHashOf (ghashs w ds))
  | _ => 0
def ghashs (w : World) : List D → List Int
  | [] => []
  | d :: r => ghash w d :: ghashs w r
end
/-- a dict whose keys are tuples: ks its items, the key's address, the value -/
def gdO (w : World) (a : Addr) (xs : List (List D × Addr × V)) : HO := .ext fun h =>
  (a == sysModules) = false ∧ xs.length ≤ LIM ∧ (xs.map (·.1)).Nodup ∧
  ∃ ys : List (List D × Addr × Value), Paired (fun (p : List D × Addr × V) (q : List D × Addr × Value) => p.1 = q.1 ∧ p.2.1 = q.2.1 ∧ RelV p.2.2 q.2.2) xs ys ∧
  ∃ o es ep, h.get? a = some o ∧ o.ExactDict ∧ o.data = .dict es ep ∧ es.toList = ys.map fun y => (⟨ghash w (.tup y.1), .ref y.2.1, y.2.2⟩ : DictEntry)
inductive RepU (w : World) (K : PySem.W.Frag) (m : Mp) (H : Hp) : Addr → O → HO → Prop
  | lst {a : Addr} {ds : List D} {vs : List V} : RepL K m H ds vs → RepU w K m H a (.lst ds) (.lst vs)
  | dk {a : Addr} {kvs : List (Key × D)} {xs : List (Key × V)} : Paired (fun p q => p.1 = q.1 ∧ Rep K m H p.2 q.2) kvs xs → RepU w K m H a (.dk kvs) (.dK xs)
  | dg {a : Addr} {kvs : List (List D × D)} {xs : List (List D × Addr × V)} : (∀ p ∈ kvs, D.gks 7 p.1 = true) → Paired (fun p q => p.1 = q.1 ∧ Rep K m H (.tup p.1) (.ref q.2.1) ∧ Rep K m H p.2 q.2.2) kvs xs → RepU w K m H a (.dg kvs) (gdO w a xs)
  | lk {a : Addr} {o : O} {ob : Obj} {u : HO} : RepU w K m H a o u → RepU w K m H a (.lk o) (.frz ob u)

section
variable {w : World} {K : PySem.W.Frag} {m m' m1 m2 : Mp} {H H' H1 H2 : Hp}
theorem RepU.mono (x : Ext m H m' H') {a : Addr} {o : O} {u : HO} (r : RepU w K m H a o u) : RepU w K m' H' a o u := by
  induction r with
  | lst h => exact .lst (h.mono x)
  | dk h => exact .dk (Paired.mapP h fun p q z => ⟨z.1, z.2.mono x⟩)
  | dg g h => exact .dg g (Paired.mapP h fun p q z => ⟨z.1, z.2.1.mono x, z.2.2.mono x⟩)
  | lk _ ih => exact .lk ih
theorem Paired.mapMem {α β : Type} {F G : α → β → Prop} : ∀ {l₁ : List α} {l₂ : List β}, Paired F l₁ l₂ → (∀ a b, a ∈ l₁ → F a b → G a b) → Paired G l₁ l₂
  | _, _, .nil, _ => .nil
  | _, _, .cons r t, f => .cons (f _ _ List.mem_cons_self r) (Paired.mapMem t fun a b h => f a b (List.mem_cons_of_mem _ h))
theorem RepU.cut {b : Nat} (e : ∀ n, n < b → m' n = m n) {a : Addr} {o : O} {u : HO} (q : o.lo b = true) (r : RepU w K m H a o u) : RepU w K m' H a o u := by
  induction r with
  | lst h => exact .lst (h.cut e q)
  | dk h =>
    unfold O.lo at q
    rw [List.all_eq_true] at q
    exact .dk (Paired.mapMem h fun p r hp z => ⟨z.1, z.2.cut e (q p hp)⟩)
  | dg g h =>
    unfold O.lo at q
    rw [List.all_eq_true] at q
    exact .dg g (Paired.mapMem h fun p r hp z => by
      have := q p hp
      rw [Bool.and_eq_true] at this
      exact ⟨z.1, z.2.1.cut e (by unfold D.lo; exact this.1), z.2.2.cut e this.2⟩)
  | lk _ ih => exact .lk (ih q)
theorem Paired.memL {α β : Type} {F : α → β → Prop} : ∀ {l₁ : List α} {l₂ : List β}, Paired F l₁ l₂ → ∀ a, a ∈ l₁ → ∃ b, b ∈ l₂ ∧ F a b
  | _, _, .nil, _, h => by simp at h
  | _, _, .cons r t, a, h => by
    rcases List.mem_cons.mp h with e | h
    · subst e
      exact ⟨_, List.mem_cons_self, r⟩
    · obtain ⟨b, hb, f⟩ := Paired.memL t a h
      exact ⟨b, List.mem_cons_of_mem _ hb, f⟩
theorem RepU.low {b : Nat} (e : ∀ n a, m n = some a → n < b) {a : Addr} {o : O} {u : HO} (r : RepU w K m H a o u) : o.lo b = true := by
  induction r with
  | lst h => exact h.low e
  | dk h =>
    unfold O.lo
    rw [List.all_eq_true]
    intro p hp
    obtain ⟨q, _, z⟩ := Paired.memL h p hp
    exact z.2.low e
  | dg g h =>
    unfold O.lo
    rw [List.all_eq_true]
    intro p hp
    obtain ⟨q, _, z⟩ := Paired.memL h p hp
    rw [Bool.and_eq_true]
    have := z.2.1.low e
    unfold D.lo at this
    exact ⟨this, z.2.2.low e⟩
  | lk _ ih => exact ih

/-- the store lies in the heap -/
structure RepS (w : World) (K : PySem.W.Frag) (m : Mp) (H : Hp) (st : Sto) : Prop where
  obj : ∀ n o, st.get n = some o → ∃ a u, m n = some a ∧ H a = some u ∧ RepU w K m H a o u
  dom : ∀ n a, m n = some a → n < st.sz ∧ ∃ u, H a = some u ∧ ∀ xs, ¬ Rd H a (.tup xs)
  inj : ∀ n k a, m n = some a → m k = some a → n = k
theorem RepU.notTup {a : Addr} {o : O} {u : HO} (r : RepU w K m H a o u) : ∀ xs, u ≠ .tup xs ∧ ∀ ob, u ≠ .frz ob (.tup xs) := by
  intro xs
  cases r with
  | lst _ => exact ⟨(fun z => nomatch z), (fun _ z => nomatch z)⟩
  | dk _ => exact ⟨(fun z => nomatch z), (fun _ z => nomatch z)⟩
  | dg _ _ => exact ⟨(fun z => nomatch z), (fun _ z => nomatch z)⟩
  | lk r =>
    refine ⟨(fun z => nomatch z), fun ob z => ?_⟩
    injection z with _ z
    subst z
    cases r
theorem RepU.noRd {a : Addr} {o : O} {u : HO} (h : H a = some u) (r : RepU w K m H a o u) : ∀ xs, ¬ Rd H a (.tup xs) := fun xs q => by
  rcases q with q | ⟨ob, q⟩
  · rw [h] at q
    exact (r.notTup xs).1 (Option.some.inj q)
  · rw [h] at q
    exact (r.notTup xs).2 ob (Option.some.inj q)
/-- the names' values -/
structure RepE (K : PySem.W.Frag) (m : Mp) (H : Hp) (env : List (Option D)) (σ : SV) : Prop where
  len : env.length = σ.length
  at' : ∀ (i : Nat) (d : D), env[i]? = some (some d) → ∃ v, σ[i]? = some (some v) ∧ Rep K m H d v
theorem RepE.mono (x : Ext m H m' H') {env : List (Option D)} {σ : SV} (r : RepE K m H env σ) : RepE K m' H' env σ :=
  ⟨r.len, fun i d e => by
    obtain ⟨v, h1, h2⟩ := r.at' i d e
    exact ⟨v, h1, h2.mono x⟩⟩
theorem RepE.set {env : List (Option D)} {σ : SV} (r : RepE K m H env σ) (i : Nat) {d : D} {v : V} (h : Rep K m H d v) : RepE K m H (env.set i (some d)) (σ.set i (some v)) :=
  ⟨by rw [List.length_set, List.length_set, r.len], fun j e q => by
    by_cases hj : i = j
    · subst hj
      by_cases hi : i < env.length
      · rw [List.getElem?_set_self hi] at q
        cases q
        exact ⟨v, by rw [List.getElem?_set_self (by rw [← r.len]; exact hi)], h⟩
      · rw [List.getElem?_eq_none (by rw [List.length_set]; omega)] at q
        cases q
    · rw [List.getElem?_set_ne hj] at q
      rw [List.getElem?_set_ne hj]
      exact r.at' j e q⟩
theorem RepE.unset {env : List (Option D)} {σ : SV} (r : RepE K m H env σ) (i : Nat) (o : Option V) : RepE K m H (env.set i none) (σ.set i o) :=
  ⟨by rw [List.length_set, List.length_set, r.len], fun j e q => by
    by_cases hj : i = j
    · subst hj
      by_cases hi : i < env.length
      · rw [List.getElem?_set_self hi] at q
        cases q
      · rw [List.getElem?_eq_none (by rw [List.length_set]; omega)] at q
        cases q
    · rw [List.getElem?_set_ne hj] at q
      rw [List.getElem?_set_ne hj]
      exact r.at' j e q⟩

/-! ### results -/
/-- an exception: the number of its class, its word where it has one -/
structure Xn where
  cls : Nat
  word : Option D
inductive Rs (α : Type) where
  | ok (a : α) (s : Sto)
  | er (x : Xn) (s : Sto)
  | no
inductive Fl where
  | nx (e : List (Option D)) (s : Sto)
  | rt (d : D) (s : Sto)
  | bk (e : List (Option D)) (s : Sto)
  | ct (e : List (Option D)) (s : Sto)
  | er (x : Xn) (e : List (Option D)) (s : Sto)
  | no
def Rs.bind {α β : Type} (r : Rs α) (f : α → Sto → Rs β) : Rs β := match r with
  | .ok a s => f a s
  | .er x s => .er x s
  | .no => .no
abbrev Env := List (Option D)
abbrev Ex := Nat → Env → Sto → Rs D
abbrev Te := Nat → Env → Sto → Rs Bool
abbrev Ar := Nat → Env → Sto → Rs (List D)
abbrev Stm := Nat → Env → Sto → Fl

/-- the classes of exceptions by their numbers -/
abbrev Cls := Nat → Option Value
/-- an exception in the heap: its class, its own dict -/
def RepX (cl : Cls) (K : PySem.W.Frag) (m : Mp) (H : Hp) (x : Xn) (c : Value) (dx : Option Addr) : Prop :=
  cl x.cls = some c ∧ match x.word with
    | none => dx = none
    | some d => ∃ a v, dx = some a ∧ H a = some (.xd [("word", v)]) ∧ Rep K m H d v

/-- what lasts from one state to a later one -/
structure To (w : World) (K : PySem.W.Frag) (m : Mp) (H : Hp) (b : Nat) (st : Sto) (m' : Mp) (H' : Hp) (st' : Sto) : Prop where
  ext : Ext m H m' H'
  rep : RepS w K m' H' st'
  old : Old b st st'
theorem To.trans {b : Nat} {st st1 st2 : Sto} (x : To w K m H b st m1 H1 st1) (y : To w K m1 H1 b st1 m2 H2 st2) : To w K m H b st m2 H2 st2 :=
  ⟨x.ext.trans y.ext, y.rep, x.old.trans y.old⟩
theorem To.refl {b : Nat} {st : Sto} (r : RepS w K m H st) : To w K m H b st m H st := ⟨.refl _ _, r, .refl _ _⟩

/-- the world of a proof: world, written part, exception classes, the wish about exceptions -/
structure G where
  w : World
  K : PySem.W.Frag
  cl : Cls
  W : WX
variable {g : G} {b b' : Nat} {st st' st1 st2 : Sto} {σ : SV} {env : Env}
def PostA {α β : Type} (R : Mp → Hp → α → β → Prop) (g : G) (m : Mp) (H : Hp) (b : Nat) (st : Sto) (σ : SV) (Q : β → Hp → Prop) : Rs α → Prop
  | .ok d st' => ∀ v H' m', To g.w g.K m H b st m' H' st' → R m' H' d v → Q v H'
  | .er x st' => ∀ c dx H' m', To g.w g.K m H b st m' H' st' → RepX g.cl g.K m' H' x c dx → g.W c dx σ H'
  | .no => False
abbrev PostE (g : G) := PostA (Rep g.K) g
abbrev PostB (g : G) := PostA (fun _ _ (x y : Bool) => x = y) g
abbrev PostL (g : G) := PostA (RepL g.K) g
theorem PostA.shift {α β : Type} {R : Mp → Hp → α → β → Prop} {Q : β → Hp → Prop} {r : Rs α} (h : PostA R g m H b st σ Q r) (x : To g.w g.K m H b st m1 H1 st1) : PostA R g m1 H1 b st1 σ Q r := by
  cases r with
  | ok d st' => exact fun v H' m' y rr => h v H' m' (x.trans y) rr
  | er e st' => exact fun c dx H' m' y rr => h c dx H' m' (x.trans y) rr
  | no => exact h
/-- the state ahead of a piece -/
structure Pre (g : G) (m : Mp) (H : Hp) (b : Nat) (st : Sto) (env : Env) (σ : SV) : Prop where
  rep : RepS g.w g.K m H st
  env : RepE g.K m H env σ
  le : b ≤ st.sz
theorem Pre.to (p : Pre g m H b st env σ) (x : To g.w g.K m H b st m1 H1 st1) : Pre g m1 H1 b st1 env σ := ⟨x.rep, p.env.mono x.ext, Nat.le_trans p.le x.old.le⟩

def tE (g : G) (f : Ex) : TE := fun σ H Q => ∃ m b st env, Pre g m H b st env σ ∧ PostE g m H b st σ Q (f b env st)
def tT (g : G) (f : Te) : TT := fun σ H Q => ∃ m b st env, Pre g m H b st env σ ∧ PostB g m H b st σ Q (f b env st)
def tA (g : G) (f : Ar) : TA := fun σ H Q => ∃ m b st env, Pre g m H b st env σ ∧ PostL g m H b st σ Q (f b env st)
def PostS (g : G) (m : Mp) (H : Hp) (b : Nat) (st : Sto) (Dn : Ends) : Fl → Prop
  | .nx e st' => ∀ σ' H' m', To g.w g.K m H b st m' H' st' → RepE g.K m' H' e σ' → Dn.nx σ' H'
  | .rt d st' => ∀ v H' m', To g.w g.K m H b st m' H' st' → Rep g.K m' H' d v → Dn.rt v H'
  | .bk e st' => ∀ σ' H' m', To g.w g.K m H b st m' H' st' → RepE g.K m' H' e σ' → Dn.bk σ' H'
  | .ct e st' => ∀ σ' H' m', To g.w g.K m H b st m' H' st' → RepE g.K m' H' e σ' → Dn.ct σ' H'
  | .er x e st' => ∀ c dx σ' H' m', To g.w g.K m H b st m' H' st' → RepE g.K m' H' e σ' → RepX g.cl g.K m' H' x c dx → g.W c dx σ' H'
  | .no => False
def tS (g : G) (f : Stm) : TS := fun Dn σ H => ∃ m b st env, Pre g m H b st env σ ∧ PostS g m H b st Dn (f b env st)
theorem PostS.shift {Dn : Ends} {r : Fl} (h : PostS g m H b st Dn r) (x : To g.w g.K m H b st m1 H1 st1) : PostS g m1 H1 b st1 Dn r := by
  cases r with
  | nx e st' => exact fun σ' H' m' y rr => h σ' H' m' (x.trans y) rr
  | rt d st' => exact fun v H' m' y rr => h v H' m' (x.trans y) rr
  | bk e st' => exact fun σ' H' m' y rr => h σ' H' m' (x.trans y) rr
  | ct e st' => exact fun σ' H' m' y rr => h σ' H' m' (x.trans y) rr
  | er e en st' => exact fun c dx σ' H' m' y rr rx => h c dx σ' H' m' (x.trans y) rr rx
  | no => exact h
theorem tE.mk {f : Ex} {Q : VK} (p : Pre g m H b st env σ) (h : PostE g m H b st σ Q (f b env st)) : tE g f σ H Q := ⟨m, b, st, env, p, h⟩

/-! ### one piece behind another -/
theorem PostA.bind {α β γ δ : Type} {R : Mp → Hp → α → β → Prop} {R' : Mp → Hp → γ → δ → Prop} {Q : δ → Hp → Prop} {r : Rs α} {k : α → Sto → Rs γ} (h : PostA R' g m H b st σ Q (r.bind k)) :
    PostA R g m H b st σ (fun v H1 => ∃ m1 st1 d, To g.w g.K m H b st m1 H1 st1 ∧ R m1 H1 d v ∧ PostA R' g m1 H1 b st1 σ Q (k d st1)) r := by
  cases r with
  | ok d st1 => exact fun v H1 m1 x rr => ⟨m1, st1, d, x, rr, PostA.shift h x⟩
  | er e st1 => exact h
  | no => exact h
theorem PostA.imp {α β : Type} {R : Mp → Hp → α → β → Prop} {Q Q' : β → Hp → Prop} {r : Rs α} (h : PostA R g m H b st σ Q r) (hq : ∀ v H', Q v H' → Q' v H') : PostA R g m H b st σ Q' r := by
  cases r with
  | ok d st' => exact fun v H' m' x rr => hq _ _ (h v H' m' x rr)
  | er e st' => exact h
  | no => exact h
end
theorem _root_.L2.PE.imp {X : Cx} {e : Expr} {t t' : TE} (h : PE X e t) (q : ∀ σ H Q, t' σ H Q → t σ H Q) : PE X e t' := ⟨fun pins s σ H Q I w => h.run pins s σ H Q I (q σ H Q w)⟩
theorem _root_.L2.PT.imp {X : Cx} {e : Expr} {t t' : TT} (h : PT X e t) (q : ∀ σ H Q, t' σ H Q → t σ H Q) : PT X e t' := ⟨fun pins s σ H Q I w => h.run pins s σ H Q I (q σ H Q w)⟩
theorem _root_.L2.PW.imp {X : Cx} {e : Expr} {t t' : TT} (h : PW X e t) (q : ∀ σ H Q, t' σ H Q → t σ H Q) : PW X e t' := ⟨fun wh pins s σ H Q I w => h.run wh pins s σ H Q I (q σ H Q w)⟩
theorem _root_.L2.PA.imp {X : Cx} {e : List Expr} {t t' : TA} (h : PA X e t) (q : ∀ σ H Q, t' σ H Q → t σ H Q) : PA X e t' := ⟨fun pos pins s σ H Q I w => h.run pos pins s σ H Q I (q σ H Q w)⟩
theorem _root_.L2.PS.imp {X : Cx} {e : Stmt} {t t' : TS} (h : PS X e t) (q : ∀ D σ H, t' D σ H → t D σ H) : PS X e t' := ⟨fun pins s σ H D I w => h.run pins s σ H D I (q D σ H w)⟩
theorem _root_.L2.PSs.imp {X : Cx} {e : List Stmt} {t t' : TS} (h : PSs X e t) (q : ∀ D σ H, t' D σ H → t D σ H) : PSs X e t' := ⟨fun pins s σ H D I w => h.run pins s σ H D I (q D σ H w)⟩
end DL
end S_DLb
section S_DLc
set_option Elab.async false
set_option linter.all false
set_option maxRecDepth 100000
set_option autoImplicit false
namespace DL
open PySem PySem.Spec PyProof.Rows L2

/-! ### a new object, a written one, a new tuple -/
def Mp.add (m : Mp) (n : Nat) (p : Addr) : Mp := fun k => if k = n then some p else m k
section
variable {w : World} {K : PySem.W.Frag} {m m' m1 m2 : Mp} {H H' H1 H2 : Hp} {st st' st1 : Sto} {b n : Nat} {p a : Addr} {o o0 : O} {u u0 : HO}
theorem Mp.add_self : (m.add n p) n = some p := by unfold Mp.add; rw [if_pos rfl]
theorem Mp.add_ne {k : Nat} (h : k ≠ n) : (m.add n p) k = m k := by unfold Mp.add; rw [if_neg h]
theorem RepS.fresh (R : RepS w K m H st) : m st.sz = none := by
  cases e : m st.sz with
  | none => rfl
  | some a => exact absurd (R.dom _ a e).1 (Nat.lt_irrefl _)
theorem RepS.ne (R : RepS w K m H st) (hp : H p = none) {k : Nat} {c : Addr} (h : m k = some c) : c ≠ p := by
  obtain ⟨_, u, e, _⟩ := R.dom k c h
  exact ne_of_none e hp
theorem Ext.alloc (R : RepS w K m H st) (hp : H p = none) : Ext m H (m.add st.sz p) (upd H p u) where
  mm := fun k c h => by
    rw [Mp.add_ne]
    · exact h
    · intro z
      subst z
      rw [R.fresh] at h
      cases h
  nw := fun k c h => by
    by_cases e : k = st.sz
    · subst e
      rw [Mp.add_self] at h
      cases h
      exact .inr hp
    · rw [Mp.add_ne e] at h
      exact .inl h
  fr := fun c v h _ => by
    rw [upd_ne (ne_of_none h hp)]
    exact h
  th := fun c v h => ⟨v, by rw [upd_ne (ne_of_none h hp)]; exact h⟩
  tt := fun c xs h => by
    rcases h with h | ⟨ob, h⟩
    · exact .inl (by rw [upd_ne (ne_of_none h hp)]; exact h)
    · exact .inr ⟨ob, by rw [upd_ne (ne_of_none h hp)]; exact h⟩
  ff := fun c ob v h => by
    rw [upd_ne (ne_of_none h hp)]
    exact h
theorem Ext.tup {vs : List V} (hp : H p = none) : Ext m H m (upd H p (.tup vs)) where
  mm := fun k c h => h
  nw := fun k c h => .inl h
  fr := fun c v h _ => by
    rw [upd_ne (ne_of_none h hp)]
    exact h
  th := fun c v h => ⟨v, by rw [upd_ne (ne_of_none h hp)]; exact h⟩
  tt := fun c xs h => by
    rcases h with h | ⟨ob, h⟩
    · exact .inl (by rw [upd_ne (ne_of_none h hp)]; exact h)
    · exact .inr ⟨ob, by rw [upd_ne (ne_of_none h hp)]; exact h⟩
  ff := fun c ob v h => by
    rw [upd_ne (ne_of_none h hp)]
    exact h
/-- the heap has grown by untold things -/
theorem RepS.grown (R : RepS w K m H st) (x : Ext m H m H') (k : ∀ n a, m n = some a → H' a = H a) : RepS w K m H' st where
  obj := fun n o h => by
    obtain ⟨a, u, h1, h2, h3⟩ := R.obj n o h
    exact ⟨a, u, h1, by rw [k n a h1]; exact h2, h3.mono x⟩
  dom := fun n a h => by
    obtain ⟨h1, u, h2, h3⟩ := R.dom n a h
    refine ⟨h1, u, by rw [k n a h]; exact h2, fun xs z => h3 xs ?_⟩
    unfold Rd at z ⊢
    rw [k n a h] at z
    exact z
  inj := R.inj
theorem To.tup {vs : List V} (R : RepS w K m H st) (hp : H p = none) : To w K m H b st m (upd H p (.tup vs)) st :=
  ⟨.tup hp, R.grown (.tup hp) fun n a h => upd_ne (R.ne hp h), .refl _ _⟩
theorem To.any {v : HO} (R : RepS w K m H st) (hp : H p = none) : To w K m H b st m (upd H p v) st := by
  have x : Ext m H m (upd H p v) := ⟨fun k c h => h, fun k c h => .inl h, fun c v h _ => by rw [upd_ne (ne_of_none h hp)]; exact h, fun c v h => ⟨v, by rw [upd_ne (ne_of_none h hp)]; exact h⟩, fun c xs h => by
    rcases h with h | ⟨ob, h⟩
    · exact .inl (by rw [upd_ne (ne_of_none h hp)]; exact h)
    · exact .inr ⟨ob, by rw [upd_ne (ne_of_none h hp)]; exact h⟩, fun c ob v h => by rw [upd_ne (ne_of_none h hp)]; exact h⟩
  exact ⟨x, R.grown x fun n a h => upd_ne (R.ne hp h), .refl _ _⟩
theorem To.alloc (R : RepS w K m H st) (hb : b ≤ st.sz) (hp : H p = none) (hu : RepU w K (m.add st.sz p) (upd H p u) p o u) : To w K m H b st (m.add st.sz p) (upd H p u) (st.push o) := by
  have x : Ext m H (m.add st.sz p) (upd H p u) := .alloc R hp
  refine ⟨x, ⟨fun k o' h => ?_, fun k c h => ?_, fun k l c h1 h2 => ?_⟩, .push o hb⟩
  · by_cases e : k = st.sz
    · subst e
      rw [get_push_self] at h
      cases h
      exact ⟨p, u, Mp.add_self, upd_same, hu⟩
    · rw [get_push_ne e] at h
      obtain ⟨c, v, h1, h2, h3⟩ := R.obj k o' h
      exact ⟨c, v, by rw [Mp.add_ne e]; exact h1, by rw [upd_ne (ne_of_none h2 hp)]; exact h2, h3.mono x⟩
  · by_cases e : k = st.sz
    · subst e
      rw [Mp.add_self] at h
      cases h
      exact ⟨Nat.lt_succ_self _, u, upd_same, hu.noRd upd_same⟩
    · rw [Mp.add_ne e] at h
      obtain ⟨h1, v, h2, h3⟩ := R.dom k c h
      have nc := ne_of_none h2 hp
      refine ⟨Nat.lt_succ_of_lt h1, v, by rw [upd_ne nc]; exact h2, fun xs z => h3 xs ?_⟩
      unfold Rd at z ⊢
      rw [upd_ne nc] at z
      exact z
  · by_cases e : k = st.sz
    · by_cases e2 : l = st.sz
      · rw [e, e2]
      · subst e
        rw [Mp.add_self] at h1
        cases h1
        rw [Mp.add_ne e2] at h2
        exact absurd rfl (R.ne hp h2)
    · by_cases e2 : l = st.sz
      · subst e2
        rw [Mp.add_self] at h2
        cases h2
        rw [Mp.add_ne e] at h1
        exact absurd rfl (R.ne hp h1)
      · rw [Mp.add_ne e] at h1
        rw [Mp.add_ne e2] at h2
        exact R.inj k l c h1 h2
theorem Ext.write (R : RepS w K m H st) (hm : m n = some a) (nf : ∀ ob v, H a ≠ some (.frz ob v)) : Ext m H m (upd H a u) where
  mm := fun k c h => h
  nw := fun k c h => .inl h
  fr := fun c v h q => by
    rw [upd_ne (fun z => q n (by rw [z]; exact hm))]
    exact h
  th := fun c v h => by
    by_cases e : c = a
    · subst e
      exact ⟨u, upd_same⟩
    · exact ⟨v, by rw [upd_ne e]; exact h⟩
  tt := fun c xs h => by
    have e : c ≠ a := fun z => by
      subst z
      obtain ⟨_, _, _, q⟩ := R.dom n c hm
      exact q xs h
    rcases h with h | ⟨ob, h⟩
    · exact .inl (by rw [upd_ne e]; exact h)
    · exact .inr ⟨ob, by rw [upd_ne e]; exact h⟩
  ff := fun c ob v h => by
    rw [upd_ne (fun z => nf ob v (by rw [← z]; exact h))]
    exact h
theorem To.write (R : RepS w K m H st) (hm : m n = some a) (hg : st.get n = some o0) (nf : ∀ ob v, H a ≠ some (.frz ob v)) (hu : RepU w K m (upd H a u) a o u) (q : b ≤ n ∨ ∀ c, o0.lo c = true → o.lo c = true) : To w K m H b st m (upd H a u) (st.put n o) := by
  have x : Ext m H m (upd H a u) := .write R hm nf
  refine ⟨x, ⟨fun k o' h => ?_, fun k c h => ?_, R.inj⟩, .put hg q⟩
  · by_cases e : k = n
    · subst e
      rw [get_put_self hg] at h
      cases h
      exact ⟨a, u, hm, upd_same, hu⟩
    · rw [get_put_ne e (get_lt hg)] at h
      obtain ⟨c, v, h1, h2, h3⟩ := R.obj k o' h
      have nc : c ≠ a := fun z => by
        subst z
        exact e (R.inj k n c h1 hm)
      exact ⟨c, v, h1, by rw [upd_ne nc]; exact h2, h3.mono x⟩
  · obtain ⟨h1, v, h2, h3⟩ := R.dom k c h
    refine ⟨h1, ?_⟩
    by_cases e : c = a
    · subst e
      exact ⟨u, upd_same, hu.noRd upd_same⟩
    · refine ⟨v, by rw [upd_ne e]; exact h2, fun xs z => h3 xs ?_⟩
      unfold Rd at z ⊢
      rw [upd_ne e] at z
      exact z
/-- the places above b forgotten, those of the store below b kept -/
def Mp.cut (m : Mp) (b : Nat) : Mp := fun n => if n < b then m n else none
theorem Mp.cut_lt {n b : Nat} (h : n < b) : (m.cut b) n = m n := if_pos h
theorem Mp.cut_ge {n b : Nat} (h : ¬ n < b) : (m.cut b) n = none := if_neg h
theorem Mp.cut_some {n b : Nat} {a : Addr} (h : (m.cut b) n = some a) : n < b ∧ m n = some a := by
  by_cases q : n < b
  · rw [Mp.cut_lt q] at h
    exact ⟨q, h⟩
  · rw [Mp.cut_ge q] at h
    cases h
/-- a store that was old ahead of a piece is cut back to what it was -/
theorem RepS.pop (R0 : RepS w K m H st) (x : To w K m H st.sz st m' H' st') : RepS w K (m'.cut st.sz) H' (st'.pop st.sz) where
  obj := fun n o h => by
    have hn : n < st.sz := get_lt (s := st'.pop st.sz) h
    rw [get_pop x.old.le hn] at h
    obtain ⟨a, u, h1, h2, h3⟩ := x.rep.obj n o h
    obtain ⟨o1, e1, q⟩ := x.old.lo n hn o h
    obtain ⟨a1, u1, _, _, r1⟩ := R0.obj n o1 e1
    exact ⟨a, u, by rw [Mp.cut_lt hn]; exact h1, h2, h3.cut (fun k hk => Mp.cut_lt hk) (q _ (r1.low fun k c e => (R0.dom k c e).1))⟩
  dom := fun n a h => by
    obtain ⟨hn, h⟩ := Mp.cut_some h
    exact ⟨hn, (x.rep.dom n a h).2⟩
  inj := fun n k a h1 h2 => x.rep.inj n k a (Mp.cut_some h1).2 (Mp.cut_some h2).2
theorem Ext.pop (R0 : RepS w K m H st) (x : Ext m H m' H') : Ext m H (m'.cut st.sz) H' where
  mm := fun n a h => by
    rw [Mp.cut_lt (R0.dom n a h).1]
    exact x.mm n a h
  nw := fun n a h => x.nw n a (Mp.cut_some h).2
  fr := x.fr
  th := x.th
  tt := x.tt
  ff := x.ff
theorem Old.pop {b c : Nat} (x : Old c st st') (h : c ≤ st.sz) (hb : b ≤ c) : Old b st (st'.pop st.sz) where
  le := Nat.le_refl _
  lo := fun n hn o q => by
    have hn' : n < st.sz := get_lt (s := st'.pop st.sz) q
    rw [get_pop x.le hn'] at q
    exact x.lo n (Nat.lt_of_lt_of_le hn hb) o q
theorem To.pop (R0 : RepS w K m H st) (x : To w K m H st.sz st m' H' st') (hb : b ≤ st.sz) : To w K m H b st (m'.cut st.sz) H' (st'.pop st.sz) :=
  ⟨x.ext.pop R0, R0.pop x, x.old.pop (Nat.le_refl _) hb⟩
end

/-! ### what is no longer spoken of is given back -/
/-- of the store s behind a piece that began at the size b, the value d -/
def gc (b : Nat) (d : D) (s : Sto) : D × Sto :=
  if Nat.beq s.sz b = true then (d, s) else
  match d with
  | .ref n => if Nat.blt n b = true then (d, s.pop b) else
      match s.get n with
      | some o => if o.lo b = true then (.ref b, (s.pop b).push o) else (d, s)
      | _ => (d, s)
  | .tup ds => if D.los b ds = true then (d, s.pop b) else (d, s)
  | _ => (d, s.pop b)
section
variable {w : World} {K : PySem.W.Frag} {m m' : Mp} {H H' : Hp} {st st' : Sto} {b : Nat}
/-- the one object at n kept, moved to the first free place -/
theorem gc_move (R0 : RepS w K m H st) (x : To w K m H st.sz st m' H' st') (hb : b ≤ st.sz) {n : Nat} {a : Addr} {o : O} (hn : ¬ n < st.sz) (ha : m' n = some a) (hg : st'.get n = some o) (hlo : o.lo st.sz = true) :
    To w K m H b st ((m'.cut st.sz).add st.sz a) H' ((st'.pop st.sz).push o) := by
  obtain ⟨a', u, h1, h2, h3⟩ := x.rep.obj n o hg
  rw [ha] at h1
  cases h1
  have R1 := R0.pop x
  have ne : ∀ k c, (m'.cut st.sz) k = some c → c ≠ a := fun k c h z => by
    subst z
    obtain ⟨hk, h⟩ := Mp.cut_some h
    have := x.rep.inj k n c h ha
    omega
  have hfree : H a = none := by
    rcases x.ext.nw n a ha with z | z
    · exact absurd (R0.dom n a z).1 hn
    · exact z
  have hm2 : ∀ k, k < st.sz → ((m'.cut st.sz).add st.sz a) k = m' k := fun k hk => by
    rw [Mp.add_ne (Nat.ne_of_lt hk), Mp.cut_lt hk]
  have hu : RepU w K ((m'.cut st.sz).add st.sz a) H' a o u := h3.cut hm2 hlo
  have hsz : (st'.pop st.sz).sz = st.sz := rfl
  refine ⟨⟨fun k c h => ?_, fun k c h => ?_, x.ext.fr, x.ext.th, x.ext.tt, x.ext.ff⟩, ⟨fun k o' h => ?_, fun k c h => ?_, fun k l c e1 e2 => ?_⟩, ⟨Nat.le_succ _, fun k hk o' q => ?_⟩⟩
  · rw [hm2 k (R0.dom k c h).1]
    exact x.ext.mm k c h
  · by_cases e : k = st.sz
    · subst e
      rw [Mp.add_self] at h
      cases h
      exact .inr hfree
    · rw [Mp.add_ne e] at h
      exact x.ext.nw k c (Mp.cut_some h).2
  · by_cases e : k = st.sz
    · subst e
      have z := get_push_self (st'.pop st.sz) o
      rw [hsz] at z
      rw [z] at h
      cases h
      exact ⟨a, u, Mp.add_self, h2, hu⟩
    · rw [get_push_ne (s := st'.pop st.sz) (by rw [hsz]; exact e)] at h
      have hk : k < st.sz := get_lt (s := st'.pop st.sz) h
      obtain ⟨c, v, q1, q2, q3⟩ := R1.obj k o' h
      refine ⟨c, v, by rw [Mp.add_ne e]; exact q1, q2, q3.cut (b := st.sz) (fun l hl => by rw [Mp.add_ne (Nat.ne_of_lt hl)]) (q3.low fun l c e => (Mp.cut_some e).1)⟩
  · by_cases e : k = st.sz
    · subst e
      rw [Mp.add_self] at h
      cases h
      exact ⟨Nat.lt_succ_self _, u, h2, h3.noRd h2⟩
    · rw [Mp.add_ne e] at h
      obtain ⟨q1, q2⟩ := R1.dom k c h
      exact ⟨Nat.lt_succ_of_lt q1, q2⟩
  · by_cases e : k = st.sz
    · by_cases e' : l = st.sz
      · rw [e, e']
      · subst e
        rw [Mp.add_self] at e1
        cases e1
        rw [Mp.add_ne e'] at e2
        exact absurd rfl (ne l _ e2)
    · by_cases e' : l = st.sz
      · subst e'
        rw [Mp.add_self] at e2
        cases e2
        rw [Mp.add_ne e] at e1
        exact absurd rfl (ne k _ e1)
      · rw [Mp.add_ne e] at e1
        rw [Mp.add_ne e'] at e2
        exact R1.inj k l c e1 e2
  · have hk2 : k < st.sz := Nat.lt_of_lt_of_le hk hb
    rw [get_push_old (s := st'.pop st.sz) hk2, get_pop x.old.le hk2] at q
    exact x.old.lo k hk2 o' q
theorem To.mono {b' : Nat} (x : To w K m H b st m' H' st') (h : b' ≤ b) : To w K m H b' st m' H' st' := ⟨x.ext, x.rep, x.old.mono h⟩
theorem gc_ok (R0 : RepS w K m H st) (x : To w K m H st.sz st m' H' st') (hb : b ≤ st.sz) {d : D} {v : V} (r : Rep K m' H' d v) :
    ∃ m2, To w K m H b st m2 H' (gc st.sz d st').2 ∧ Rep K m2 H' (gc st.sz d st').1 v := by
  have keep : ∃ m2, To w K m H b st m2 H' st' ∧ Rep K m2 H' d v := ⟨m', x.mono hb, r⟩
  have cutd : d.lo st.sz = true → ∃ m2, To w K m H b st m2 H' (st'.pop st.sz) ∧ Rep K m2 H' d v := fun q => ⟨_, x.pop R0 hb, r.cut (fun k hk => Mp.cut_lt hk) q⟩
  unfold gc
  split
  · exact keep
  · split
    · rename_i n
      split
      · rename_i h
        exact cutd h
      · rename_i h
        have hn : ¬ n < st.sz := fun z => h (by rw [Nat.blt_eq]; exact z)
        cases r with
        | ref ha =>
          split
          · rename_i o hg
            split
            · rename_i hl
              exact ⟨_, gc_move R0 x hb hn ha hg hl, .ref Mp.add_self⟩
            · exact keep
          · exact keep
    · rename_i ds
      split
      · rename_i h
        exact cutd h
      · exact keep
    · rename_i h1 h2
      refine cutd ?_
      cases d with
      | ref n => exact absurd rfl (h1 n)
      | tup ds => exact absurd rfl (h2 ds)
      | non => rfl
      | bl _ => rfl
      | int _ => rfl
      | str _ => rfl
end
end DL
end S_DLc
section S_DLd
set_option Elab.async false
set_option linter.all false
set_option maxRecDepth 100000
set_option autoImplicit false
namespace DL
open PySem PySem.Spec PyProof.Rows L2

abbrev gX (X : Cx) (cl : Cls) (W : WX) : G := ⟨X.w, X.K, cl, W⟩
abbrev PD (X : Cx) (cl : Cls) (W : WX) (e : Expr) (f : Ex) : Prop := PE X e (tE (gX X cl W) f)
abbrev PDT (X : Cx) (cl : Cls) (W : WX) (e : Expr) (f : Te) : Prop := PT X e (tT (gX X cl W) f)
abbrev PDW (X : Cx) (cl : Cls) (W : WX) (e : Expr) (f : Te) : Prop := PW X e (tT (gX X cl W) f)
abbrev PDA (X : Cx) (cl : Cls) (W : WX) (e : List Expr) (f : Ar) : Prop := PA X e (tA (gX X cl W) f)
abbrev PDS (X : Cx) (cl : Cls) (W : WX) (e : Stmt) (f : Stm) : Prop := PS X e (tS (gX X cl W) f)
abbrev PDSs (X : Cx) (cl : Cls) (W : WX) (e : List Stmt) (f : Stm) : Prop := PSs X e (tS (gX X cl W) f)

/-! ### the pieces as functions -/
def cVar (i : Nat) : Ex := fun _ env st => match env[i]? with
  | some (some d) => .ok d st
  | _ => .no
def cC (d : D) : Ex := fun _ _ st => .ok d st
def cUn (f : D → Sto → Rs D) (a : Ex) : Ex := fun b env st => (a b env st).bind f
def cBin (f : D → D → Sto → Rs D) (a c : Ex) : Ex := fun b env st => (a b env st).bind fun d st => (c b env st).bind fun e st => f d e st
def cNilA : Ar := fun _ _ st => .ok [] st
def cConsA (a : Ex) (r : Ar) : Ar := fun b env st => (a b env st).bind fun d st => (r b env st).bind fun ds st => .ok (d :: ds) st
def cArgs (f : List D → Sto → Rs D) (a : Ar) : Ex := fun b env st => (a b env st).bind f
def cTup (a : Ar) : Ex := fun b env st => (a b env st).bind fun ds st => if Nat.ble ds.length LIM = true then .ok (.tup ds) st else .no
def cLst (a : Ar) : Ex := fun b env st => (a b env st).bind fun ds st => if Nat.ble ds.length LIM = true then .ok (.ref st.sz) (st.push (.lst ds)) else .no
def cIf (t : Te) (a c : Ex) : Ex := fun b env st => (t b env st).bind fun k st => match k with
  | true => a b env st
  | false => c b env st
def cB (f : Ex) : Te := fun b env st => (f b env st).bind fun d st => match d with
  | .bl k => .ok k st
  | _ => .no
def cAnd (a c : Te) : Te := fun b env st => (a b env st).bind fun k st => match k with
  | true => c b env st
  | false => .ok false st
def cOr (a c : Te) : Te := fun b env st => (a b env st).bind fun k st => match k with
  | true => .ok true st
  | false => c b env st
def cNot (a : Te) : Te := fun b env st => (a b env st).bind fun k st => .ok (!k) st
def cAndV (a c : Ex) : Ex := fun b env st => (a b env st).bind fun d st => match d with
  | .bl true => c b env st
  | .bl false => .ok (.bl false) st
  | _ => .no
def cOrV (a c : Ex) : Ex := fun b env st => (a b env st).bind fun d st => match d with
  | .bl false => c b env st
  | .bl true => .ok (.bl true) st
  | _ => .no
def cNotV (a : Ex) : Ex := fun b env st => (a b env st).bind fun d st => match d with
  | .bl k => .ok (.bl (!k)) st
  | _ => .no
def cCh (r r' : D → D → Sto → Rs D) (a c e : Ex) : Ex := fun b env st => (a b env st).bind fun x st => (c b env st).bind fun y st => (r x y st).bind fun z st => match z with
  | .bl true => (e b env st).bind fun z st => r' y z st
  | .bl false => .ok (.bl false) st
  | _ => .no

section
variable {X : Cx} {cl : Cls} {W : WX}
variable {m : Mp} {H : Hp} {b : Nat} {st : Sto} {σ : SV} {env : Env}

theorem PostE.fin {g : G} {d : D} {st' : Sto} {Q : VK} {v : V} (h : PostE g m H b st σ Q (.ok d st')) (R : RepS g.w g.K m H st) (e : st' = st) (r : Rep g.K m H d v) : Q v H := by
  subst e
  exact h v H m (.refl R) r

/-! ### names and constants -/
theorem pd_var {i : Nat} {e : Expr} (h : PE X e (tVar i)) : PD X cl W e (cVar i) := h.imp fun σ H Q ⟨m, b, st, env, p, h⟩ => by
  unfold cVar at h
  cases e : env[i]? with
  | none =>
    rw [e] at h
    exact h.elim
  | some o =>
    cases o with
    | none =>
      rw [e] at h
      exact h.elim
    | some d =>
      rw [e] at h
      obtain ⟨v, h1, h2⟩ := p.env.at' i d e
      exact ⟨v, h1, h v H m (.refl p.rep) h2⟩
theorem pd_con {e : Expr} {d : D} {v : V} (h : PE X e (tC v)) (r : ∀ m H, Rep X.K m H d v) : PD X cl W e (cC d) := h.imp fun σ H Q ⟨m, b, st, env, p, h⟩ => h v H m (.refl p.rep) (r m H)
theorem pd_int {i : Int} {j : Nat} {pos : Pos} : PD X cl W (.Constant (.int i) j pos) (cC (.int i)) := pd_con pe_int fun _ _ => .int i
theorem pd_bl {i : Bool} {j : Nat} {pos : Pos} : PD X cl W (.Constant (.bool i) j pos) (cC (.bl i)) := pd_con pe_bl fun _ _ => .bl i
theorem pd_str {i : Str} {j : Nat} {pos : Pos} : PD X cl W (.Constant (.str i) j pos) (cC (.str i)) := pd_con pe_str fun _ _ => .str i
theorem pd_non {j : Nat} {pos : Pos} : PD X cl W (.Constant .none j pos) (cC .non) := pd_con pe_non fun _ _ => .non

/-! ### operators by values -/
/-- r asks of two values what f reckons of their data -/
def Sem2 (X : Cx) (cl : Cls) (W : WX) (r : R2) (f : D → D → Sto → Rs D) : Prop := ∀ (m : Mp) (H : Hp) (b : Nat) (st : Sto) (σ : SV) (d e : D) (x y : V) (Q : VK), RepS X.w X.K m H st → b ≤ st.sz → Rep X.K m H d x → Rep X.K m H e y →
  PostE (gX X cl W) m H b st σ Q (f d e st) → r x y H Q
def Sem1 (X : Cx) (cl : Cls) (W : WX) (r : V → Hp → VK → Prop) (f : D → Sto → Rs D) : Prop := ∀ (m : Mp) (H : Hp) (b : Nat) (st : Sto) (σ : SV) (d : D) (x : V) (Q : VK), RepS X.w X.K m H st → b ≤ st.sz → Rep X.K m H d x →
  PostE (gX X cl W) m H b st σ Q (f d st) → r x H Q
def SemC (X : Cx) (cl : Cls) (W : WX) (r : List V → Hp → VK → Prop) (f : List D → Sto → Rs D) : Prop := ∀ (m : Mp) (H : Hp) (b : Nat) (st : Sto) (σ : SV) (ds : List D) (xs : List V) (Q : VK), RepS X.w X.K m H st → b ≤ st.sz → RepL X.K m H ds xs →
  PostE (gX X cl W) m H b st σ Q (f ds st) → r xs H Q
theorem tOp_of {r : R2} {f : D → D → Sto → Rs D} {fa fc : Ex} (hs : Sem2 X cl W r f) {σ : SV} {H : Hp} {Q : VK} (h : tE (gX X cl W) (cBin f fa fc) σ H Q) : tOp r (tE (gX X cl W) fa) (tE (gX X cl W) fc) σ H Q := by
  obtain ⟨m, b, st, env, p, h⟩ := h
  refine ⟨m, b, st, env, p, (PostA.bind (R := Rep X.K) h).imp fun x H1 ⟨m1, st1, d, t1, r1, h1⟩ => ?_⟩
  have p1 := p.to t1
  refine ⟨m1, b, st1, env, p1, (PostA.bind (R := Rep X.K) h1).imp fun y H2 ⟨m2, st2, e, t2, r2, h2⟩ => ?_⟩
  have p2 := p1.to t2
  exact hs m2 H2 b st2 σ d e x y Q p2.rep p2.le (r1.mono t2.ext) r2 h2
theorem pd_op {a c : Expr} {op : Operator} {pos : Pos} {r : R2} {f : D → D → Sto → Rs D} {fa fc : Ex} (ho : OpR X (binaryOp op) r) (hs : Sem2 X cl W r f) (ha : PD X cl W a fa) (hc : PD X cl W c fc) : PD X cl W (.BinOp a op c pos) (cBin f fa fc) :=
  (pe_op ho ha hc).imp fun σ H Q h => tOp_of hs h
theorem pd_cmp {a c : Expr} {op : CmpOp} {pos : Pos} {r : R2} {f : D → D → Sto → Rs D} {fa fc : Ex} (ho : OpR X (compareOp op) r) (hs : Sem2 X cl W r f) (ha : PD X cl W a fa) (hc : PD X cl W c fc) (hm : behindInMarks op c = false := by rfl) : PD X cl W (.Compare a [op] [c] pos) (cBin f fa fc) :=
  (pe_cmpR ho ha hc hm).imp fun σ H Q h => tOp_of hs h
theorem cB_of {t : TE} {f : Ex} (q : ∀ σ H Q, tE (gX X cl W) f σ H Q → t σ H Q) {σ : SV} {H : Hp} {Q : Bool → Hp → Prop} (h : tT (gX X cl W) (cB f) σ H Q) : t σ H fun x H' => ∃ k, x = .bl k ∧ Q k H' := by
  obtain ⟨m, b, st, env, p, h⟩ := h
  refine q σ H _ ⟨m, b, st, env, p, (PostA.bind (R := Rep X.K) h).imp fun x H1 ⟨m1, st1, d, t1, r1, h1⟩ => ?_⟩
  cases d with
  | bl k =>
    cases r1
    exact ⟨k, rfl, h1 k H1 m1 (.refl t1.rep) rfl⟩
  | _ => exact h1.elim
theorem pdt_cmp {a c : Expr} {op : CmpOp} {pos : Pos} {r : R2} {f : D → D → Sto → Rs D} {fa fc : Ex} (ho : OpR X (compareOp op) r) (hs : Sem2 X cl W r f) (ha : PD X cl W a fa) (hc : PD X cl W c fc) (hm : behindInMarks op c = false := by rfl) : PDT X cl W (.Compare a [op] [c] pos) (cB (cBin f fa fc)) :=
  (pt_cmpR ho ha hc hm).imp fun σ H Q h => cB_of (fun σ H Q h => tOp_of hs h) h
theorem pdt_val {e : Expr} {f : Ex} (h : PD X cl W e f) (he : ∀ whole, isTrue e X.env whole = (do let v ← whole; standAt e.pos; holding [v] (truthy v)) := by intro _; rfl) : PDT X cl W e (cB f) :=
  (pt_val h he).imp fun σ H Q h => cB_of (fun σ H Q h => h) h
theorem pd_un {a : Expr} {op : UnaryOp} {pos : Pos} {r : V → Hp → VK → Prop} {f : D → Sto → Rs D} {fa : Ex} (ho : UnR X (unaryOp op) r) (hs : Sem1 X cl W r f) (ha : PD X cl W a fa) : PD X cl W (.UnaryOp op a pos) (cUn f fa) :=
  (pe_un ho ha).imp fun σ H Q ⟨m, b, st, env, p, h⟩ => by
    refine ⟨m, b, st, env, p, (PostA.bind (R := Rep X.K) h).imp fun x H1 ⟨m1, st1, d, t1, r1, h1⟩ => ?_⟩
    have p1 := p.to t1
    exact hs m1 H1 b st1 σ d x Q p1.rep p1.le r1 h1
theorem tChain_of {r r' : R2} {f f' : D → D → Sto → Rs D} {fa fc fe : Ex} (hs : Sem2 X cl W r f) (hs' : Sem2 X cl W r' f') {σ : SV} {H : Hp} {Q : VK} (h : tE (gX X cl W) (cCh f f' fa fc fe) σ H Q) :
    tE (gX X cl W) fa σ H fun x H1 => tE (gX X cl W) fc σ H1 fun y H2 => r x y H2 fun z H3 => ∃ k, z = .bl k ∧ if k = true then tE (gX X cl W) fe σ H3 fun z' H4 => r' y z' H4 Q else Q (.bl false) H3 := by
  obtain ⟨m, b, st, env, p, h⟩ := h
  refine ⟨m, b, st, env, p, (PostA.bind (R := Rep X.K) h).imp fun x H1 ⟨m1, st1, d, t1, r1, h1⟩ => ?_⟩
  have p1 := p.to t1
  refine ⟨m1, b, st1, env, p1, (PostA.bind (R := Rep X.K) h1).imp fun y H2 ⟨m2, st2, e, t2, r2, h2⟩ => ?_⟩
  have p2 := p1.to t2
  refine hs m2 H2 b st2 σ d e x y _ p2.rep p2.le (r1.mono t2.ext) r2 ((PostA.bind (R := Rep X.K) h2).imp fun z H3 ⟨m3, st3, k, t3, r3, h3⟩ => ?_)
  have p3 := p2.to t3
  cases k with
  | bl k =>
    cases r3
    refine ⟨k, rfl, ?_⟩
    cases k with
    | true =>
      rw [if_pos rfl]
      refine ⟨m3, b, st3, env, p3, (PostA.bind (R := Rep X.K) h3).imp fun z' H4 ⟨m4, st4, k', t4, r4, h4⟩ => ?_⟩
      have p4 := p3.to t4
      exact hs' m4 H4 b st4 σ e k' y z' Q p4.rep p4.le ((r2.mono t3.ext).mono t4.ext) r4 h4
    | false =>
      rw [if_neg Bool.false_ne_true]
      exact h3 _ H3 m3 (.refl t3.rep) (.bl false)
  | _ => exact h3.elim
theorem pd_chain {a c e : Expr} {op op' : CmpOp} {pos : Pos} {r r' : R2} {f f' : D → D → Sto → Rs D} {fa fc fe : Ex} (ho : OpR X (compareOp op) r) (hs : Sem2 X cl W r f) (ho' : OpR X (compareOp op') r') (hs' : Sem2 X cl W r' f') (ha : PD X cl W a fa) (hc : PD X cl W c fc) (he : PD X cl W e fe)
    (hm : lastMarks [op, op'] [c, e] = false := by with_unfolding_all rfl) : PD X cl W (.Compare a [op, op'] [c, e] pos) (cCh f f' fa fc fe) :=
  (pe_chain ho ho' ha hc he hm).imp fun σ H Q h => tChain_of hs hs' h
theorem pdt_chain {a c e : Expr} {op op' : CmpOp} {pos : Pos} {r r' : R2} {f f' : D → D → Sto → Rs D} {fa fc fe : Ex} (ho : OpR X (compareOp op) r) (hs : Sem2 X cl W r f) (ho' : OpR X (compareOp op') r') (hs' : Sem2 X cl W r' f') (ha : PD X cl W a fa) (hc : PD X cl W c fc) (he : PD X cl W e fe)
    (hm : lastMarks [op, op'] [c, e] = false := by with_unfolding_all rfl) : PDT X cl W (.Compare a [op, op'] [c, e] pos) (cB (cCh f f' fa fc fe)) :=
  (pt_chain ho ho' ha hc he hm).imp fun σ H Q h => cB_of (fun σ H Q h => tChain_of hs hs' h) h

/-! ### and, or, not, if .. else -/
variable {a c : Expr} {rest : List Expr} {pos : Pos} {fa fc : Ex} {ta tc : Te}
theorem pdw_and1 (ha : PDT X cl W a ta) : PDW X cl W (.BoolOp .And [a] pos) ta := pw_and1 ha
theorem pdw_or1 (ha : PDT X cl W a ta) : PDW X cl W (.BoolOp .Or [a] pos) ta := pw_or1 ha
theorem pdw_and (ha : PDT X cl W a ta) (hc : PDW X cl W (.BoolOp .And (c :: rest) pos) tc) : PDW X cl W (.BoolOp .And (a :: c :: rest) pos) (cAnd ta tc) :=
  (pw_and ha hc).imp fun σ H Q ⟨m, b, st, env, p, h⟩ => by
    refine ⟨m, b, st, env, p, (PostA.bind (R := fun _ _ (x y : Bool) => x = y) h).imp fun k H1 ⟨m1, st1, k', t1, r1, h1⟩ => ?_⟩
    subst r1
    cases k' with
    | true => exact iteT ⟨m1, b, st1, env, p.to t1, h1⟩
    | false => exact iteF (h1 _ H1 m1 (.refl t1.rep) rfl)
theorem pdw_or (ha : PDT X cl W a ta) (hc : PDW X cl W (.BoolOp .Or (c :: rest) pos) tc) : PDW X cl W (.BoolOp .Or (a :: c :: rest) pos) (cOr ta tc) :=
  (pw_or ha hc).imp fun σ H Q ⟨m, b, st, env, p, h⟩ => by
    refine ⟨m, b, st, env, p, (PostA.bind (R := fun _ _ (x y : Bool) => x = y) h).imp fun k H1 ⟨m1, st1, k', t1, r1, h1⟩ => ?_⟩
    subst r1
    cases k' with
    | true => exact iteT (h1 _ H1 m1 (.refl t1.rep) rfl)
    | false => exact iteF ⟨m1, b, st1, env, p.to t1, h1⟩
theorem pdt_w (h : PDW X cl W a ta) : PDT X cl W a ta := h.pt
theorem pdt_not (ha : PDT X cl W a ta) : PDT X cl W (.UnaryOp .Not a pos) (cNot ta) :=
  (pt_not ha).imp fun σ H Q ⟨m, b, st, env, p, h⟩ => by
    refine ⟨m, b, st, env, p, (PostA.bind (R := fun _ _ (x y : Bool) => x = y) h).imp fun k H1 ⟨m1, st1, k', t1, r1, h1⟩ => ?_⟩
    subst r1
    exact h1 _ H1 m1 (.refl t1.rep) rfl
theorem pd_one {op : BoolOp} (h : PD X cl W a fa) : PD X cl W (.BoolOp op [a] pos) fa := pe_one h
theorem pd_and (ha : PD X cl W a fa) (hc : PD X cl W (.BoolOp .And (c :: rest) pos) fc) : PD X cl W (.BoolOp .And (a :: c :: rest) pos) (cAndV fa fc) :=
  (pe_and ha hc).imp fun σ H Q ⟨m, b, st, env, p, h⟩ => by
    refine ⟨m, b, st, env, p, (PostA.bind (R := Rep X.K) h).imp fun x H1 ⟨m1, st1, d, t1, r1, h1⟩ => ?_⟩
    cases d with
    | bl k =>
      cases r1
      refine ⟨k, rfl, ?_⟩
      cases k with
      | true => exact iteT ⟨m1, b, st1, env, p.to t1, h1⟩
      | false => exact iteF (h1 _ H1 m1 (.refl t1.rep) (.bl false))
    | _ => exact h1.elim
theorem pd_or (ha : PD X cl W a fa) (hc : PD X cl W (.BoolOp .Or (c :: rest) pos) fc) : PD X cl W (.BoolOp .Or (a :: c :: rest) pos) (cOrV fa fc) :=
  (pe_or ha hc).imp fun σ H Q ⟨m, b, st, env, p, h⟩ => by
    refine ⟨m, b, st, env, p, (PostA.bind (R := Rep X.K) h).imp fun x H1 ⟨m1, st1, d, t1, r1, h1⟩ => ?_⟩
    cases d with
    | bl k =>
      cases r1
      refine ⟨k, rfl, ?_⟩
      cases k with
      | true => exact iteT (h1 _ H1 m1 (.refl t1.rep) (.bl true))
      | false => exact iteF ⟨m1, b, st1, env, p.to t1, h1⟩
    | _ => exact h1.elim
theorem pd_not (ha : PD X cl W a fa) : PD X cl W (.UnaryOp .Not a pos) (cNotV fa) :=
  (pe_not ha).imp fun σ H Q ⟨m, b, st, env, p, h⟩ => by
    refine ⟨m, b, st, env, p, (PostA.bind (R := Rep X.K) h).imp fun x H1 ⟨m1, st1, d, t1, r1, h1⟩ => ?_⟩
    cases d with
    | bl k =>
      cases r1
      exact ⟨k, rfl, h1 _ H1 m1 (.refl t1.rep) (.bl _)⟩
    | _ => exact h1.elim
theorem pd_if {t : Expr} (ht : PDT X cl W t ta) (ha : PD X cl W a fa) (hc : PD X cl W c fc) : PD X cl W (.IfExp t a c pos) (cIf ta fa fc) :=
  (pe_ifExp ht ha hc).imp fun σ H Q ⟨m, b, st, env, p, h⟩ => by
    refine ⟨m, b, st, env, p, (PostA.bind (R := fun _ _ (x y : Bool) => x = y) h).imp fun k H1 ⟨m1, st1, k', t1, r1, h1⟩ => ?_⟩
    subst r1
    cases k' with
    | true => exact iteT ⟨m1, b, st1, env, p.to t1, h1⟩
    | false => exact iteF ⟨m1, b, st1, env, p.to t1, h1⟩

/-! ### argument lists, displays -/
theorem pda_nil : PDA X cl W [] cNilA := pa_nil.imp fun σ H Q ⟨m, b, st, env, p, h⟩ => h [] H m (.refl p.rep) .nil
theorem pda_cons {es : List Expr} {fr : Ar} (ha : PD X cl W a fa) (hr : PDA X cl W es fr) (hs : starEach (a :: es) X.env = (false, eval a X.env) :: starEach es X.env := by rfl) : PDA X cl W (a :: es) (cConsA fa fr) :=
  (pa_cons ha hr hs).imp fun σ H Q ⟨m, b, st, env, p, h⟩ => by
    refine ⟨m, b, st, env, p, (PostA.bind (R := Rep X.K) h).imp fun x H1 ⟨m1, st1, d, t1, r1, h1⟩ => ?_⟩
    have p1 := p.to t1
    refine ⟨m1, b, st1, env, p1, (PostA.bind (R := RepL X.K) h1).imp fun xs H2 ⟨m2, st2, ds, t2, r2, h2⟩ => ?_⟩
    exact h2 _ H2 m2 (.refl t2.rep) (.cons (r1.mono t2.ext) r2)
theorem lim_line {n : Nat} (h : n ≤ LIM) : n ≤ sizeLine := by
  have : (1000000 : Nat) ≤ sizeLine := by rw [sizeLine_eq]; decide
  exact Nat.le_trans h this
theorem lim_lt {n : Nat} (h : n ≤ LIM) : n < sizeLine := by
  have : (1000000 : Nat) < sizeLine := by rw [sizeLine_eq]; decide
  exact Nat.lt_of_le_of_lt h this
theorem pd_tup {es : List Expr} {k : Nat} {fr : Ar} (h : PDA X cl W es fr) : PD X cl W (.Tuple es k pos) (cTup fr) :=
  (pe_tup h).imp fun σ H Q ⟨m, b, st, env, p, h⟩ => by
    refine ⟨m, b, st, env, p, (PostA.bind (R := RepL X.K) h).imp fun xs H1 ⟨m1, st1, ds, t1, r1, h1⟩ => ?_⟩
    dsimp only at h1
    split at h1
    · rename_i hl
      rw [Nat.ble_eq] at hl
      refine ⟨by rw [← r1.length]; exact lim_line hl, fun q hq => ?_⟩
      have t := To.tup (vs := xs) (b := b) t1.rep hq
      exact h1 _ _ m1 t (.tup (.inl (.inl upd_same)) (r1.mono t.ext))
    · exact h1.elim
theorem pd_lst {es : List Expr} {fr : Ar} (h : PDA X cl W es fr) : PD X cl W (.List es pos) (cLst fr) :=
  (pe_lst h).imp fun σ H Q ⟨m, b, st, env, p, h⟩ => by
    refine ⟨m, b, st, env, p, (PostA.bind (R := RepL X.K) h).imp fun xs H1 ⟨m1, st1, ds, t1, r1, h1⟩ => ?_⟩
    dsimp only at h1
    split at h1
    · rename_i hl
      rw [Nat.ble_eq] at hl
      refine ⟨by rw [← r1.length]; exact lim_line hl, fun q hq => ?_⟩
      have t := To.alloc (b := b) (o := .lst ds) (u := .lst xs) t1.rep (p.to t1).le hq (.lst (r1.mono (Ext.alloc t1.rep hq)))
      exact h1 _ _ _ t (.ref Mp.add_self)
    · exact h1.elim
end
end DL
end S_DLd
section S_DLe
set_option Elab.async false
set_option linter.all false
set_option maxRecDepth 100000
set_option autoImplicit false
namespace DL
open PySem PySem.Spec PyProof.Rows L2

/-! ### equality of data -/
mutual
def D.gnd : Nat → D → Bool
  | _, .ref _ => false
  | _, .str x => PyData.strOk x
  | 0, .tup _ => false
  | k + 1, .tup ds => D.gnds k ds
  | _, .non => true
  | _, .bl _ => true
  | _, .int _ => true
def D.gnds : Nat → List D → Bool
  | _, [] => true
  | k, d :: r => D.gnd k d && D.gnds k r
end
mutual
def D.eqv : D → D → Bool
  | .non, .non => true
  | .bl a, .bl b => a == b
  | .bl a, .int j => (if a then 1 else 0) == j
  | .int i, .bl b => i == (if b then 1 else 0)
  | .int i, .int j => i == j
  | .str x, .str y => x == y
  | .tup xs, .tup ys => D.eqvs xs ys
  | _, _ => false
def D.eqvs : List D → List D → Bool
  | [], [] => true
  | x :: xs, y :: ys => D.eqv x y && D.eqvs xs ys
  | _, _ => false
end
mutual
def D.toP : D → PyData
  | .non => .none
  | .bl b => .bool b
  | .int i => .int i
  | .str x => .str x
  | .tup ds => .tuple (D.toPs ds)
  | .ref _ => .none
def D.toPs : List D → List PyData
  | [] => []
  | d :: r => D.toP d :: D.toPs r
end
mutual
theorem gnd_shape : ∀ (k : Nat) (d : D), D.gnd k d = true → (D.toP d).canLay0 = true ∧ (D.toP d).depth ≤ k
  | _, .ref _, h => by unfold D.gnd at h; cases h
  | _, .str x, h => ⟨by unfold D.gnd at h; exact h, Nat.zero_le _⟩
  | 0, .tup _, h => by unfold D.gnd at h; cases h
  | k + 1, .tup ds, h => by
    unfold D.gnd at h
    obtain ⟨h1, h2⟩ := gnds_shape k ds h
    exact ⟨h1, Nat.succ_le_succ h2⟩
  | _, .non, _ => ⟨rfl, Nat.zero_le _⟩
  | _, .bl _, _ => ⟨rfl, Nat.zero_le _⟩
  | _, .int _, _ => ⟨rfl, Nat.zero_le _⟩
theorem gnds_shape : ∀ (k : Nat) (ds : List D), D.gnds k ds = true → PyData.canLayAll0 (D.toPs ds) = true ∧ PyData.depthAll (D.toPs ds) ≤ k
  | _, [], _ => ⟨rfl, Nat.zero_le _⟩
  | k, d :: r, h => by
    unfold D.gnds at h
    rw [Bool.and_eq_true] at h
    obtain ⟨h1, h2⟩ := gnd_shape k d h.1
    obtain ⟨h3, h4⟩ := gnds_shape k r h.2
    refine ⟨?_, ?_⟩
    · show (_ && _) = true
      rw [Bool.and_eq_true]
      exact ⟨h1, h3⟩
    · show max _ _ ≤ k
      omega
end
theorem gnd_shaped {d : D} (h : D.gnd 60 d = true) : SeqAt.shaped (D.toP d) = true := by
  obtain ⟨h1, h2⟩ := gnd_shape 60 d h
  unfold SeqAt.shaped
  rw [h1, Bool.true_and]
  exact decide_eq_true (by omega)
theorem gnds_shaped {ds : List D} (h : D.gnds 60 ds = true) : SeqAt.shaped (.list (D.toPs ds)) = true := by
  obtain ⟨h1, h2⟩ := gnds_shape 60 ds h
  unfold SeqAt.shaped
  have e : (PyData.list (D.toPs ds)).canLay0 = PyData.canLayAll0 (D.toPs ds) := by
    show PyData.canLay0 _ = _
    unfold PyData.canLay0
    rfl
  have e2 : (PyData.list (D.toPs ds)).depth = PyData.depthAll (D.toPs ds) + 1 := by
    show PyData.depth _ = _
    unfold PyData.depth
    rfl
  rw [e, h1, Bool.true_and, e2]
  exact decide_eq_true (by omega)
section
variable {K : PySem.W.Frag} {m : Mp} {H : Hp}
mutual
theorem rep_dp : ∀ (k : Nat) (d : D) (v : V), D.gnd k d = true → Rep K m H d v → Dp K H v (D.toP d)
  | _, .ref _, _, h, _ => by unfold D.gnd at h; cases h
  | _, .str x, _, h, r => by cases r; exact .str x
  | 0, .tup _, _, h, _ => by unfold D.gnd at h; cases h
  | k + 1, .tup ds, _, h, r => by
    unfold D.gnd at h
    cases r with
    | tup hs hl => exact .tup hs (repL_dp k ds _ h hl)
  | _, .non, _, _, r => by cases r; exact .non
  | _, .bl b, _, _, r => by cases r; exact .bl b
  | _, .int i, _, _, r => by cases r; exact .int i
theorem repL_dp : ∀ (k : Nat) (ds : List D) (vs : List V), D.gnds k ds = true → RepL K m H ds vs → DpAll K H vs (D.toPs ds)
  | _, [], _, _, r => by cases r; exact .nil
  | k, d :: ds, _, h, r => by
    unfold D.gnds at h
    rw [Bool.and_eq_true] at h
    cases r with
    | cons a b => exact .cons (rep_dp k d _ h.1 a) (repL_dp k ds _ h.2 b)
end
mutual
theorem eqv_toP : ∀ (k : Nat) (d e : D), D.gnd k d = true → D.gnd k e = true → PyData.eqv (D.toP d) (D.toP e) = D.eqv d e
  | _, .ref _, _, h, _ => by unfold D.gnd at h; cases h
  | k, .tup xs, e, h, q => by
    cases e with
    | tup ys =>
      cases k with
      | zero => unfold D.gnd at h; cases h
      | succ k =>
        unfold D.gnd at h q
        show PyData.eqvAll (D.toPs xs) (D.toPs ys) = D.eqvs xs ys
        exact eqvs_toP k xs ys h q
    | ref n => unfold D.gnd at q; cases q
    | _ => rfl
  | _, .non, e, _, q => by cases e <;> first | rfl | (unfold D.gnd at q; cases q)
  | _, .bl _, e, _, q => by cases e <;> first | rfl | (unfold D.gnd at q; cases q)
  | _, .int _, e, _, q => by cases e <;> first | rfl | (unfold D.gnd at q; cases q)
  | _, .str _, e, _, q => by
    cases e with
    | str y => rfl
    | ref n => unfold D.gnd at q; cases q
    | _ => rfl
theorem eqvs_toP : ∀ (k : Nat) (ds es : List D), D.gnds k ds = true → D.gnds k es = true → PyData.eqvAll (D.toPs ds) (D.toPs es) = D.eqvs ds es
  | _, [], [], _, _ => rfl
  | _, [], _ :: _, _, _ => rfl
  | _, _ :: _, [], _, _ => rfl
  | k, d :: ds, e :: es, h, q => by
    unfold D.gnds at h q
    rw [Bool.and_eq_true] at h q
    show (PyData.eqv (D.toP d) (D.toP e) && PyData.eqvAll (D.toPs ds) (D.toPs es)) = (D.eqv d e && D.eqvs ds es)
    rw [eqv_toP k d e h.1 q.1, eqvs_toP k ds es h.2 q.2]
end
end

/-- the items of the list at n -/
def Sto.list (st : Sto) (n : Nat) : Option (List D) := match st.get n with
  | some (.lst ds) => some ds
  | some (.lk (.lst ds)) => some ds
  | _ => none
section
variable {w : World} {K : PySem.W.Frag} {m : Mp} {H : Hp} {st : Sto}
theorem RepS.list (R : RepS w K m H st) {n : Nat} {a : Addr} {ds : List D} (ha : m n = some a) (h : st.list n = some ds) : ∃ vs, SqL K H a vs ∧ RepL K m H ds vs := by
  unfold Sto.list at h
  cases e : st.get n with
  | none => rw [e] at h; cases h
  | some o =>
    rw [e] at h
    obtain ⟨a', u, h1, h2, h3⟩ := R.obj n o e
    rw [ha] at h1
    cases h1
    cases h3 with
    | lst r =>
      have e' := Option.some.inj h
      subst e'
      exact ⟨_, .inl (.inl h2), r⟩
    | lk r =>
      cases r with
      | lst r =>
        have e' := Option.some.inj h
        subst e'
        exact ⟨_, .inl (.inr ⟨_, h2⟩), r⟩
      | _ => cases h
    | _ => cases h
theorem RepS.lst (R : RepS w K m H st) {n : Nat} {a : Addr} {ds : List D} (ha : m n = some a) (h : st.get n = some (.lst ds)) : ∃ vs, H a = some (.lst vs) ∧ RepL K m H ds vs := by
  obtain ⟨a', u, h1, h2, h3⟩ := R.obj n _ h
  rw [ha] at h1
  cases h1
  cases h3 with
  | lst r => exact ⟨_, h2, r⟩
end

/-! ### operators -/
def oAdd : D → D → Sto → Rs D
  | .int i, .int j, st => .ok (.int (i + j)) st
  | .tup xs, .tup ys, st => if Nat.ble (xs.length + ys.length) LIM = true then .ok (.tup (xs ++ ys)) st else .no
  | .str x, .str y, st => if Nat.ble (x.length + y.length) LIM = true then .ok (.str (x ++ y)) st else .no
  | .ref n, .ref k, st => match st.get n, st.get k with
    | some (.lst xs), some (.lst ys) => if Nat.ble (xs.length + ys.length) LIM = true then .ok (.ref st.sz) (st.push (.lst (xs ++ ys))) else .no
    | _, _ => .no
  | _, _, _ => .no
def oSub : D → D → Sto → Rs D
  | .int i, .int j, st => .ok (.int (i - j)) st
  | _, _, _ => .no
abbrev two64 : Nat := 18446744073709551616
def oMul : D → D → Sto → Rs D
  | .int i, .int j, st => if (Nat.blt i.natAbs two64 || Nat.blt j.natAbs two64) = true then .ok (.int (i * j)) st else .no
  | .ref n, .int k, st => match st.get n with
    | some (.lst xs) => if (Nat.ble (xs.length * k.toNat) LIM && Nat.ble k.natAbs LIM) = true then .ok (.ref st.sz) (st.push (.lst (List.replicate k.toNat xs).flatten)) else .no
    | _ => .no
  | .tup xs, .int k, st => if (2 ≤ k && k ≤ 1000 && Nat.ble xs.length 1000 && !xs.isEmpty) = true then .ok (.tup (List.replicate k.toNat xs).flatten) st else .no
  | _, _, _ => .no
abbrev two30 : Nat := 1073741824
def oDiv : D → D → Sto → Rs D
  | .int i, .int j, st => if (!(j == 0) && Nat.blt j.natAbs two30) = true then .ok (.int (i.fdiv j)) st else .no
  | _, _, _ => .no
def oMod : D → D → Sto → Rs D
  | .int i, .int j, st => if (!(j == 0)) = true then .ok (.int (i.fmod j)) st else .no
  | _, _, _ => .no
def oPow : D → D → Sto → Rs D
  | .int i, .int j, st => if (0 ≤ j && j ≤ 1000000 && Nat.blt i.natAbs two64) = true then .ok (.int (i ^ j.toNat)) st else .no
  | _, _, _ => .no
def oShl : D → D → Sto → Rs D
  | .int i, .int j, st => if (0 ≤ j && j ≤ 1000000 && Nat.blt i.natAbs two64) = true then .ok (.int (i * 2 ^ j.toNat)) st else .no
  | _, _, _ => .no
def oShr : D → D → Sto → Rs D
  | .int i, .int j, st => if decide (0 ≤ j) = true then .ok (.int (i / 2 ^ j.toNat)) st else .no
  | _, _, _ => .no
def oAnd : D → D → Sto → Rs D
  | .int i, .int j, st => .ok (.int (Builtin.bitAnd i j)) st
  | _, _, _ => .no
def oXor : D → D → Sto → Rs D
  | .int i, .int j, st => .ok (.int (Builtin.bitXor i j)) st
  | _, _, _ => .no
def oNeg : D → Sto → Rs D
  | .int i, st => .ok (.int (-i)) st
  | _, _ => .no
def oLt : D → D → Sto → Rs D
  | .int i, .int j, st => .ok (.bl (decide (i < j))) st
  | _, _, _ => .no
def oLe : D → D → Sto → Rs D
  | .int i, .int j, st => .ok (.bl (decide (i ≤ j))) st
  | _, _, _ => .no
def oGt : D → D → Sto → Rs D
  | .int i, .int j, st => .ok (.bl (decide (j < i))) st
  | _, _, _ => .no
def oGe : D → D → Sto → Rs D
  | .int i, .int j, st => .ok (.bl (decide (j ≤ i))) st
  | _, _, _ => .no
def deq (d e : D) (st : Sto) : Option Bool :=
  match d, e with
  | .int i, .int j => some (i == j)
  | .ref n, .ref k => match st.list n, st.list k with
    | some xs, some ys => if (D.gnds 60 xs && D.gnds 60 ys) = true then some (D.eqvs xs ys) else none
    | _, _ => none
  | d, e => if (D.gnd 60 d && D.gnd 60 e) = true then some (D.eqv d e) else none
def oEq (d e : D) (st : Sto) : Rs D := match deq d e st with
  | some k => .ok (.bl k) st
  | none => .no
def oNe (d e : D) (st : Sto) : Rs D := match deq d e st with
  | some k => .ok (.bl (!k)) st
  | none => .no
def D.isN : D → Bool
  | .non => true
  | _ => false
def oIsN (d e : D) (st : Sto) : Rs D := match e with
  | .non => .ok (.bl d.isN) st
  | .bl k => match d with
    | .bl j => .ok (.bl (j == k)) st
    | _ => .no
  | _ => .no
def oNotN (d e : D) (st : Sto) : Rs D := match e with
  | .non => .ok (.bl (!d.isN)) st
  | .bl k => match d with
    | .bl j => .ok (.bl (!(j == k))) st
    | _ => .no
  | _ => .no

section
variable {X : Cx} {cl : Cls} {W : WX}
theorem PostA.put {α β : Type} {R : Mp → Hp → α → β → Prop} {g : G} {m : Mp} {H : Hp} {b : Nat} {st : Sto} {σ : SV} {Q : β → Hp → Prop} {d : α} {v : β} (h : PostA R g m H b st σ Q (.ok d st)) (Rr : RepS g.w g.K m H st) (r : R m H d v) : Q v H := h v H m (.refl Rr) r
theorem s2_int {f : D → D → Sto → Rs D} {C : Int → Int → Prop} {gg : Int → Int → V} {hh : Int → Int → D}
    (hf : ∀ d e st, (∃ i j, d = .int i ∧ e = .int j ∧ ((C i j ∧ f d e st = .ok (hh i j) st) ∨ f d e st = .no)) ∨ f d e st = .no) (hr : ∀ i j m H, Rep X.K m H (hh i j) (gg i j)) : Sem2 X cl W (rI C gg) f := by
  intro m H b st σ d e x y Q R hb rx ry h
  rcases hf d e st with ⟨i, j, rfl, rfl, ⟨hc, q⟩ | q⟩ | q
  · rw [q] at h
    cases rx
    cases ry
    exact ⟨i, j, rfl, rfl, hc, h.put R (hr i j m H)⟩
  · rw [q] at h
    exact h.elim
  · rw [q] at h
    exact h.elim
theorem s2_int0 {f : D → D → Sto → Rs D} {gg : Int → Int → V} {hh : Int → Int → D}
    (hf : ∀ d e st, (∃ i j, d = .int i ∧ e = .int j ∧ f d e st = .ok (hh i j) st) ∨ f d e st = .no) (hr : ∀ i j m H, Rep X.K m H (hh i j) (gg i j)) : Sem2 X cl W (rI0 gg) f := by
  intro m H b st σ d e x y Q R hb rx ry h
  rcases hf d e st with ⟨i, j, rfl, rfl, q⟩ | q
  · rw [q] at h
    cases rx
    cases ry
    exact ⟨i, j, rfl, rfl, h.put R (hr i j m H)⟩
  · rw [q] at h
    exact h.elim
theorem m_sub : Sem2 X cl W (rI0 fun i j => .int (i - j)) oSub := s2_int0 (hh := fun i j => .int (i - j)) (fun d e st => by
  cases d <;> cases e <;> first | exact .inr rfl | exact .inl ⟨_, _, rfl, rfl, rfl⟩) fun i j m H => .int _
theorem m_and : Sem2 X cl W (rI0 fun i j => .int (Builtin.bitAnd i j)) oAnd := s2_int0 (hh := fun i j => .int (Builtin.bitAnd i j)) (fun d e st => by
  cases d <;> cases e <;> first | exact .inr rfl | exact .inl ⟨_, _, rfl, rfl, rfl⟩) fun i j m H => .int _
theorem m_xor : Sem2 X cl W (rI0 fun i j => .int (Builtin.bitXor i j)) oXor := s2_int0 (hh := fun i j => .int (Builtin.bitXor i j)) (fun d e st => by
  cases d <;> cases e <;> first | exact .inr rfl | exact .inl ⟨_, _, rfl, rfl, rfl⟩) fun i j m H => .int _
theorem m_lt : Sem2 X cl W (rI0 fun i j => .bl (decide (i < j))) oLt := s2_int0 (hh := fun i j => .bl (decide (i < j))) (fun d e st => by
  cases d <;> cases e <;> first | exact .inr rfl | exact .inl ⟨_, _, rfl, rfl, rfl⟩) fun i j m H => .bl _
theorem m_le : Sem2 X cl W (rI0 fun i j => .bl (decide (i ≤ j))) oLe := s2_int0 (hh := fun i j => .bl (decide (i ≤ j))) (fun d e st => by
  cases d <;> cases e <;> first | exact .inr rfl | exact .inl ⟨_, _, rfl, rfl, rfl⟩) fun i j m H => .bl _
theorem m_gt : Sem2 X cl W (rI0 fun i j => .bl (decide (j < i))) oGt := s2_int0 (hh := fun i j => .bl (decide (j < i))) (fun d e st => by
  cases d <;> cases e <;> first | exact .inr rfl | exact .inl ⟨_, _, rfl, rfl, rfl⟩) fun i j m H => .bl _
theorem m_ge : Sem2 X cl W (rI0 fun i j => .bl (decide (j ≤ i))) oGe := s2_int0 (hh := fun i j => .bl (decide (j ≤ i))) (fun d e st => by
  cases d <;> cases e <;> first | exact .inr rfl | exact .inl ⟨_, _, rfl, rfl, rfl⟩) fun i j m H => .bl _
theorem m_div : Sem2 X cl W (rI CDivN fun i j => .int (i.fdiv j)) oDiv := s2_int (hh := fun i j => .int (i.fdiv j)) (fun d e st => by
  cases d <;> cases e <;> first | exact .inr rfl | skip
  rename_i i j
  refine .inl ⟨_, _, rfl, rfl, ?_⟩
  show (_ ∧ (if (!(j == 0) && Nat.blt j.natAbs two30) = true then Rs.ok (D.int (i.fdiv j)) st else Rs.no) = Rs.ok (D.int (i.fdiv j)) st) ∨ (if (!(j == 0) && Nat.blt j.natAbs two30) = true then Rs.ok (D.int (i.fdiv j)) st else Rs.no) = Rs.no
  by_cases h : (!(j == 0) && Nat.blt j.natAbs two30) = true
  · rw [if_pos h]
    refine .inl ⟨?_, rfl⟩
    rw [Bool.and_eq_true, Nat.blt_eq] at h
    refine ⟨?_, h.2⟩
    have := h.1
    simpa using this
  · rw [if_neg h]
    exact .inr rfl) fun i j m H => .int _
theorem m_mod : Sem2 X cl W (rI (fun _ j => j ≠ 0) fun i j => .int (i.fmod j)) oMod := s2_int (hh := fun i j => .int (i.fmod j)) (fun d e st => by
  cases d <;> cases e <;> first | exact .inr rfl | skip
  rename_i i j
  refine .inl ⟨_, _, rfl, rfl, ?_⟩
  show (_ ∧ (if (!(j == 0)) = true then Rs.ok (D.int (i.fmod j)) st else Rs.no) = Rs.ok (D.int (i.fmod j)) st) ∨ (if (!(j == 0)) = true then Rs.ok (D.int (i.fmod j)) st else Rs.no) = Rs.no
  by_cases h : (!(j == 0)) = true
  · rw [if_pos h]
    refine .inl ⟨?_, rfl⟩
    simpa using h
  · rw [if_neg h]
    exact .inr rfl) fun i j m H => .int _
theorem m_pow : Sem2 X cl W (rI CPow fun i j => .int (i ^ j.toNat)) oPow := s2_int (hh := fun i j => .int (i ^ j.toNat)) (fun d e st => by
  cases d <;> cases e <;> first | exact .inr rfl | skip
  rename_i i j
  refine .inl ⟨_, _, rfl, rfl, ?_⟩
  show (_ ∧ (if (0 ≤ j && j ≤ 1000000 && Nat.blt i.natAbs two64) = true then Rs.ok (D.int (i ^ j.toNat)) st else Rs.no) = Rs.ok (D.int (i ^ j.toNat)) st) ∨ (if (0 ≤ j && j ≤ 1000000 && Nat.blt i.natAbs two64) = true then Rs.ok (D.int (i ^ j.toNat)) st else Rs.no) = Rs.no
  by_cases h : (0 ≤ j && j ≤ 1000000 && Nat.blt i.natAbs two64) = true
  · rw [if_pos h]
    refine .inl ⟨?_, rfl⟩
    rw [Bool.and_eq_true, Bool.and_eq_true, Nat.blt_eq] at h
    exact ⟨of_decide_eq_true h.1.1, of_decide_eq_true h.1.2, h.2⟩
  · rw [if_neg h]
    exact .inr rfl) fun i j m H => .int _
theorem m_shl : Sem2 X cl W (rI CPow fun i j => .int (i * 2 ^ j.toNat)) oShl := s2_int (hh := fun i j => .int (i * 2 ^ j.toNat)) (fun d e st => by
  cases d <;> cases e <;> first | exact .inr rfl | skip
  rename_i i j
  refine .inl ⟨_, _, rfl, rfl, ?_⟩
  show (_ ∧ (if (0 ≤ j && j ≤ 1000000 && Nat.blt i.natAbs two64) = true then Rs.ok (D.int (i * 2 ^ j.toNat)) st else Rs.no) = Rs.ok (D.int (i * 2 ^ j.toNat)) st) ∨ (if (0 ≤ j && j ≤ 1000000 && Nat.blt i.natAbs two64) = true then Rs.ok (D.int (i * 2 ^ j.toNat)) st else Rs.no) = Rs.no
  by_cases h : (0 ≤ j && j ≤ 1000000 && Nat.blt i.natAbs two64) = true
  · rw [if_pos h]
    refine .inl ⟨?_, rfl⟩
    rw [Bool.and_eq_true, Bool.and_eq_true, Nat.blt_eq] at h
    exact ⟨of_decide_eq_true h.1.1, of_decide_eq_true h.1.2, h.2⟩
  · rw [if_neg h]
    exact .inr rfl) fun i j m H => .int _
theorem m_shr : Sem2 X cl W (rI (fun _ j => 0 ≤ j) fun i j => .int (i / 2 ^ j.toNat)) oShr := s2_int (hh := fun i j => .int (i / 2 ^ j.toNat)) (fun d e st => by
  cases d <;> cases e <;> first | exact .inr rfl | skip
  rename_i i j
  refine .inl ⟨_, _, rfl, rfl, ?_⟩
  show (_ ∧ (if decide (0 ≤ j) = true then Rs.ok (D.int (i / 2 ^ j.toNat)) st else Rs.no) = Rs.ok (D.int (i / 2 ^ j.toNat)) st) ∨ (if decide (0 ≤ j) = true then Rs.ok (D.int (i / 2 ^ j.toNat)) st else Rs.no) = Rs.no
  by_cases h : decide (0 ≤ j) = true
  · rw [if_pos h]
    refine .inl ⟨?_, rfl⟩
    exact of_decide_eq_true h
  · rw [if_neg h]
    exact .inr rfl) fun i j m H => .int _
theorem m_neg : Sem1 X cl W (rU fun i => .int (-i)) oNeg := by
  intro m H b st σ d x Q R hb rx h
  cases d with
  | int i =>
    cases rx
    exact ⟨i, rfl, PostA.put (R := Rep X.K) h R (.int _)⟩
  | _ => exact h.elim

/-- + -/
def rAddA (X : Cx) : R2 := fun x y H Q => rI0 (fun i j => .int (i + j)) x y H Q ∨ rCatA X.K x y H Q ∨ rCat x y H Q ∨ (∃ i j, x = .str i ∧ y = .str j ∧ i.length + j.length ≤ sizeLine ∧ Q (.str (i ++ j)) H)
theorem op_addA : OpR X (binaryOp .Add) (rAddA X) := op_add.or (op_catA.or (op_cat.or op_add_str))
theorem m_add : Sem2 X cl W (rAddA X) oAdd := by
  intro m H b st σ d e x y Q R hb rx ry h
  cases d with
  | int i =>
    cases e with
    | int j =>
      cases rx
      cases ry
      exact .inl ⟨i, j, rfl, rfl, PostA.put (R := Rep X.K) h R (.int _)⟩
    | _ => exact h.elim
  | str i =>
    cases e with
    | str j =>
      cases rx
      cases ry
      simp only [oAdd] at h
      split at h
      · rename_i hl
        rw [Nat.ble_eq] at hl
        exact .inr (.inr (.inr ⟨i, j, rfl, rfl, lim_line hl, PostA.put (R := Rep X.K) h R (.str _)⟩))
      · exact h.elim
    | _ => exact h.elim
  | tup xs =>
    cases e with
    | tup ys =>
      simp only [oAdd] at h
      split at h
      · rename_i hl
        rw [Nat.ble_eq] at hl
        cases rx with
        | tup hs hl1 =>
          cases ry with
          | tup ht hl2 =>
            rename_i a vs a' ws
            refine .inr (.inl ⟨a, a', vs, ws, rfl, rfl, hs, ht, ?_, fun e => ?_, fun _ e => ?_, fun _ _ p hp => ?_⟩)
            · rw [← hl1.length, ← hl2.length]
              exact lim_line hl
            · subst e
              cases hl1
              exact PostA.put (R := Rep X.K) h R (.tup ht (by simpa using hl2))
            · subst e
              cases hl2
              exact PostA.put (R := Rep X.K) h R (.tup hs (by simpa using hl1))
            · have t := To.tup (vs := vs ++ ws) (b := b) R hp
              exact h _ _ m t (.tup (.inl (.inl upd_same)) ((hl1.append hl2).mono t.ext))
      · exact h.elim
    | _ => exact h.elim
  | ref n =>
    cases e with
    | ref k =>
      simp only [oAdd] at h
      cases e1 : st.get n with
      | none => simp only [e1] at h; exact h.elim
      | some o1 =>
        cases o1 with
        | lst xs =>
          cases e2 : st.get k with
          | none => simp only [e1, e2] at h; exact h.elim
          | some o2 =>
            cases o2 with
            | lst ys =>
              simp only [e1, e2] at h
              split at h
              · rename_i hl
                rw [Nat.ble_eq] at hl
                cases rx with
                | ref ha =>
                  cases ry with
                  | ref hc =>
                    obtain ⟨vs, g1, l1⟩ := R.lst ha e1
                    obtain ⟨ws, g2, l2⟩ := R.lst hc e2
                    refine .inr (.inr (.inl ⟨_, _, vs, ws, rfl, rfl, g1, g2, ?_, fun p hp => ?_⟩))
                    · rw [← l1.length, ← l2.length]
                      exact lim_line hl
                    · have t := To.alloc (b := b) (o := .lst (xs ++ ys)) (u := .lst (vs ++ ws)) R hb hp (.lst ((l1.append l2).mono (Ext.alloc R hp)))
                      exact h _ _ _ t (.ref Mp.add_self)
              · exact h.elim
            | _ => simp only [e1, e2] at h; exact h.elim
        | _ => simp only [e1] at h; exact h.elim
    | _ => exact h.elim
  | _ => exact h.elim

theorem RepL.rep {K : PySem.W.Frag} {m : Mp} {H : Hp} {ds : List D} {vs : List V} (r : RepL K m H ds vs) : ∀ k : Nat, RepL K m H (List.replicate k ds).flatten (List.replicate k vs).flatten
  | 0 => .nil
  | k + 1 => by
    rw [List.replicate_succ, List.replicate_succ, List.flatten_cons, List.flatten_cons]
    exact r.append (RepL.rep r k)
/-- * -/
def rMulA (X : Cx) : R2 := fun x y H Q => rI CMul (fun i j => .int (i * j)) x y H Q ∨ rRep x y H Q ∨ rRepT X.K x y H Q
theorem op_mulA : OpR X (binaryOp .Mult) (rMulA X) := op_mul.or (op_rep.or op_repT)
theorem m_mul : Sem2 X cl W (rMulA X) oMul := by
  intro m H b st σ d e x y Q R hb rx ry h
  cases d with
  | int i =>
    cases e with
    | int j =>
      cases rx
      cases ry
      simp only [oMul] at h
      split at h
      · rename_i hl
        rw [Bool.or_eq_true, Nat.blt_eq, Nat.blt_eq] at hl
        refine .inl ⟨i, j, rfl, rfl, ?_, PostA.put (R := Rep X.K) h R (.int _)⟩
        unfold CMul
        have e2 : (two64 : Nat) = 2 ^ 64 := by decide
        rcases hl with q | q
        · left
          rw [e2] at q
          omega
        · right
          rw [e2] at q
          omega
      · exact h.elim
    | _ => exact h.elim
  | tup xs =>
    cases e with
    | int k =>
      simp only [oMul] at h
      split at h
      · rename_i hl
        rw [Bool.and_eq_true, Bool.and_eq_true, Bool.and_eq_true, Nat.ble_eq] at hl
        cases ry
        cases rx with
        | tup hs hl1 =>
          rename_i a vs
          refine .inr (.inr ⟨a, k, vs, rfl, rfl, hs, fun e => ?_, of_decide_eq_true hl.1.1.1, of_decide_eq_true hl.1.1.2, by rw [← hl1.length]; exact hl.1.2, fun p hp => ?_⟩)
          · subst e
            cases hl1
            exact absurd hl.2 (by decide)
          · have t := To.tup (vs := (List.replicate k.toNat vs).flatten) (b := b) R hp
            exact h _ _ m t (.tup (.inl (.inl upd_same)) ((hl1.rep _).mono t.ext))
      · exact h.elim
    | _ => exact h.elim
  | ref n =>
    cases e with
    | int k =>
      simp only [oMul] at h
      cases e1 : st.get n with
      | none => simp only [e1] at h; exact h.elim
      | some o1 =>
        cases o1 with
        | lst xs =>
          simp only [e1] at h
          split at h
          · rename_i hl
            rw [Bool.and_eq_true, Nat.ble_eq, Nat.ble_eq] at hl
            cases ry
            cases rx with
            | ref ha =>
              obtain ⟨vs, g1, l1⟩ := R.lst ha e1
              have hk : k.natAbs ≤ 1000000 := hl.2
              refine .inr (.inl ⟨_, k, vs, rfl, rfl, g1, by omega, by omega, by rw [← l1.length]; exact lim_line hl.1, fun p hp => ?_⟩)
              have t := To.alloc (b := b) (o := .lst (List.replicate k.toNat xs).flatten) (u := .lst (List.replicate k.toNat vs).flatten) R hb hp (.lst ((l1.rep _).mono (Ext.alloc R hp)))
              exact h _ _ _ t (.ref Mp.add_self)
          · exact h.elim
        | _ => simp only [e1] at h; exact h.elim
    | _ => exact h.elim
  | _ => exact h.elim

/-- == -/
theorem deq_ok {m : Mp} {H : Hp} {st : Sto} {d e : D} {x y : V} {k : Bool} (R : RepS X.w X.K m H st) (rx : Rep X.K m H d x) (ry : Rep X.K m H e y) (h : deq d e st = some k) :
    ∃ p q, Dp X.K H x p ∧ Dp X.K H y q ∧ SeqAt.shaped p = true ∧ SeqAt.shaped q = true ∧ PyData.eqv p q = k := by
  have gr : ∀ d e : D, Rep X.K m H d x → Rep X.K m H e y → (if (D.gnd 60 d && D.gnd 60 e) = true then some (D.eqv d e) else none) = some k → ∃ p q, Dp X.K H x p ∧ Dp X.K H y q ∧ SeqAt.shaped p = true ∧ SeqAt.shaped q = true ∧ PyData.eqv p q = k := fun d e rx ry h => by
    split at h
    · rename_i hg
      rw [Bool.and_eq_true] at hg
      refine ⟨D.toP d, D.toP e, rep_dp 60 d x hg.1 rx, rep_dp 60 e y hg.2 ry, gnd_shaped hg.1, gnd_shaped hg.2, ?_⟩
      rw [eqv_toP 60 d e hg.1 hg.2]
      exact Option.some.inj h
    · cases h
  unfold deq at h
  split at h
  · rename_i i j
    exact gr _ _ rx ry (by simpa [D.gnd, D.eqv] using h)
  · rename_i n l
    cases rx with
    | ref ha =>
      cases ry with
      | ref hc =>
        cases e1 : st.list n with
        | none => rw [e1] at h; cases h
        | some xs =>
          cases e2 : st.list l with
          | none => rw [e1, e2] at h; cases h
          | some ys =>
            rw [e1, e2] at h
            dsimp only at h
            split at h
            · rename_i hg
              rw [Bool.and_eq_true] at hg
              obtain ⟨vs, g1, l1⟩ := R.list ha e1
              obtain ⟨ws, g2, l2⟩ := R.list hc e2
              refine ⟨.list (D.toPs xs), .list (D.toPs ys), .lst g1 (repL_dp 60 _ _ hg.1 l1), .lst g2 (repL_dp 60 _ _ hg.2 l2), gnds_shaped hg.1, gnds_shaped hg.2, ?_⟩
              show PyData.eqvAll _ _ = k
              rw [eqvs_toP 60 _ _ hg.1 hg.2]
              exact Option.some.inj h
            · cases h
  · exact gr _ _ rx ry h
theorem m_eq : Sem2 X cl W (rEqD X.K) oEq := by
  intro m H b st σ d e x y Q R hb rx ry h
  unfold oEq at h
  cases e1 : deq d e st with
  | none => rw [e1] at h; exact h.elim
  | some k =>
    rw [e1] at h
    obtain ⟨p, q, h1, h2, h3, h4, h5⟩ := deq_ok R rx ry e1
    refine ⟨p, q, h1, h2, h3, h4, ?_⟩
    rw [h5]
    exact PostA.put (R := Rep X.K) h R (.bl _)
theorem m_ne : Sem2 X cl W (rNeD X.K) oNe := by
  intro m H b st σ d e x y Q R hb rx ry h
  unfold oNe at h
  cases e1 : deq d e st with
  | none => rw [e1] at h; exact h.elim
  | some k =>
    rw [e1] at h
    obtain ⟨p, q, h1, h2, h3, h4, h5⟩ := deq_ok R rx ry e1
    refine ⟨p, q, h1, h2, h3, h4, ?_⟩
    rw [h5]
    exact PostA.put (R := Rep X.K) h R (.bl _)
/-- is None, is True -/
def rIsA : R2 := fun x y H Q => (y = .non ∧ Q (.bl (decide (x = .non))) H) ∨ rIsB x y H Q
def rNotA : R2 := fun x y H Q => (y = .non ∧ Q (.bl (!decide (x = .non))) H) ∨ rNotB x y H Q
theorem op_isA : OpR X (compareOp .Is) rIsA := op_isN.or op_isBl
theorem op_isnotA : OpR X (compareOp .IsNot) rNotA := op_notN.or op_notBl
theorem isN_ok {m : Mp} {H : Hp} {d : D} {x : V} (rx : Rep X.K m H d x) : decide (x = .non) = d.isN := by
  cases rx <;> rfl
theorem m_is : Sem2 X cl W rIsA oIsN := by
  intro m H b st σ d e x y Q R hb rx ry h
  cases e with
  | non =>
    cases ry
    refine .inl ⟨rfl, ?_⟩
    rw [isN_ok rx]
    exact PostA.put (R := Rep X.K) h R (.bl _)
  | bl k =>
    cases d with
    | bl j =>
      cases ry
      cases rx
      refine .inr ⟨j, k, rfl, rfl, ?_⟩
      have h := PostA.put (R := Rep X.K) (v := .bl (j == k)) h R (.bl _)
      rwa [Bool.beq_eq_decide_eq] at h
    | _ => exact h.elim
  | _ => exact h.elim
theorem m_isnot : Sem2 X cl W rNotA oNotN := by
  intro m H b st σ d e x y Q R hb rx ry h
  cases e with
  | non =>
    cases ry
    refine .inl ⟨rfl, ?_⟩
    rw [isN_ok rx]
    exact PostA.put (R := Rep X.K) h R (.bl _)
  | bl k =>
    cases d with
    | bl j =>
      cases ry
      cases rx
      refine .inr ⟨j, k, rfl, rfl, ?_⟩
      have h := PostA.put (R := Rep X.K) (v := .bl (!(j == k))) h R (.bl _)
      rwa [Bool.beq_eq_decide_eq] at h
    | _ => exact h.elim
  | _ => exact h.elim
end
end DL
end S_DLe
section S_DLf
set_option Elab.async false
set_option linter.all false
set_option maxRecDepth 100000
set_option autoImplicit false
namespace DL
open PySem PySem.Spec PyProof.Rows L2

/-! ### statements as functions -/
def sNx : Stm := fun _ env st => .nx env st
def sBk : Stm := fun _ env st => .bk env st
def sCt : Stm := fun _ env st => .ct env st
def sSeq (f g : Stm) : Stm := fun b env st => match f b env st with
  | .nx e s => g b e s
  | .rt d s => .rt d s
  | .bk e s => .bk e s
  | .ct e s => .ct e s
  | .er x e s => .er x e s
  | .no => .no
/-- the value is dropped -/
def sDrop (f : Ex) : Stm := fun b env st => match f b env st with
  | .ok _ s => .nx env s
  | .er x s => .er x env s
  | .no => .no
def sRet (f : Ex) : Stm := fun b env st => match f b env st with
  | .ok d s => .rt d s
  | .er x s => .er x env s
  | .no => .no
def sRetN : Stm := fun _ _ st => .rt .non st
def sIf (t : Te) (f g : Stm) : Stm := fun b env st => match t b env st with
  | .ok true s => f b env s
  | .ok false s => g b env s
  | .er x s => .er x env s
  | .no => .no
abbrev Tg := D → Env → Option Env
def gN (i : Nat) : Tg := fun d env => some (env.set i (some d))
def gTs : List Tg → List D → Env → Option Env
  | [], [], env => some env
  | t :: ts, d :: ds, env => match t d env with
    | some e => gTs ts ds e
    | none => none
  | _, _, _ => none
def gT (ts : List Tg) : Tg := fun d env => match d with
  | .tup ds => gTs ts ds env
  | _ => none
/-- target = e, what else was made given back -/
def sAsg (t : Tg) (f : Ex) : Stm := fun b env st => match f st.sz env st with
  | .ok d s => match gc st.sz d s with
    | (d', s') => match t d' env with
      | some e => .nx e s'
      | none => .no
  | .er x s => .er x env s
  | .no => .no
/-- name op= e -/
def sAug (i : Nat) (o : D → D → Sto → Rs D) (f : Ex) : Stm := sAsg (gN i) (cBin o (cVar i) f)
/-- a, b = x, y by names -/
def sPar (is : List Nat) (f : Ar) : Stm := fun b env st => match f b env st with
  | .ok ds s => if ds.length = is.length then .nx ((is.zip ds).foldl (fun e p => e.set p.1 (some p.2)) env) s else .no
  | .er x s => .er x env s
  | .no => .no

/-! ### what is walked -/
inductive Wk where
  | sn (ds : List D)
  | lv (it : Nat → Sto → Option (Option D))
abbrev Wx := Nat → Env → Sto → Rs Wk
def Wk.it : Wk → Nat → Sto → Option (Option D)
  | .sn ds, i, _ => some ds[i]?
  | .lv f, i, s => f i s
def FUEL : Nat := 100000
def forS (t : Tg) (f : Stm) (b : Nat) : List D → Env → Sto → Fl
  | [], env, st => .nx env st
  | d :: r, env, st => match t d env with
    | none => .no
    | some e => match f b e st with
      | .nx e s => forS t f b r e s
      | .ct e s => forS t f b r e s
      | .bk e s => .nx e s
      | .rt d s => .rt d s
      | .er x e s => .er x e s
      | .no => .no
def forL (it : Nat → Sto → Option (Option D)) (t : Tg) (f : Stm) (b : Nat) : Nat → Nat → Env → Sto → Fl
  | 0, _, _, _ => .no
  | k + 1, i, env, st => match it i st with
    | none => .no
    | some none => .nx env st
    | some (some d) => match t d env with
      | none => .no
      | some e => match f b e st with
        | .nx e s => forL it t f b k (i + 1) e s
        | .ct e s => forL it t f b k (i + 1) e s
        | .bk e s => .nx e s
        | .rt d s => .rt d s
        | .er x e s => .er x e s
        | .no => .no
def sFor (w : Wx) (t : Tg) (f : Stm) : Stm := fun b env st => match w b env st with
  | .ok (.sn ds) s => forS t f b ds env s
  | .ok (.lv it) s => forL it t f b FUEL 0 env s
  | .er x s => .er x env s
  | .no => .no
def whileN (t : Te) (f : Stm) (b : Nat) : Nat → Env → Sto → Fl
  | 0, _, _ => .no
  | k + 1, env, st => match t st.sz env st with
    | .ok true s => match f b env (s.pop st.sz) with
      | .nx e s => whileN t f b k e s
      | .ct e s => whileN t f b k e s
      | .bk e s => .nx e s
      | .rt d s => .rt d s
      | .er x e s => .er x e s
      | .no => .no
    | .ok false s => .nx env (s.pop st.sz)
    | .er x s => .er x env s
    | .no => .no
def sWhile (t : Te) (f : Stm) : Stm := fun b env st => whileN t f b FUEL env st
/-- a test whose rest is given back -/
def tGc (t : Te) : Te := fun b env st => match t st.sz env st with
  | .ok k s => .ok k (s.pop st.sz)
  | .er x s => .er x s
  | .no => .no
def eGc (t : Ex) : Ex := fun b env st => match t st.sz env st with
  | .ok d s => match gc st.sz d s with
    | (d', s') => .ok d' s'
  | .er x s => .er x s
  | .no => .no

/-! ### a call -/
abbrev Fn := List D → Sto → Rs D
def cCall (F : Fn) (a : Ar) : Ex := fun b env st => (a b env st).bind fun ds s => F ds s
/-- a def: n names, k parameters -/
def fnD (n k : Nat) (f : Stm) : Fn := fun ds st => if ds.length = k then
    match f st.sz (ds.map some ++ List.replicate (n - k) none) st with
    | .rt d s => match gc st.sz d s with
      | (d', s') => .ok d' s'
    | .nx _ s => .ok .non (s.pop st.sz)
    | .er x _ s => .er x s
    | _ => .no
  else .no

section
variable {X : Cx} {cl : Cls} {W : WX}
variable {m : Mp} {H : Hp} {b : Nat} {st : Sto} {σ : SV} {env : Env}
/-- a target's reading -/
def tG (K : PySem.W.Frag) (t : Tg) (is : List Nat) : TG := fun v σ H Q => ∃ (m : Mp) (d : D) (env e1 : Env), Rep K m H d v ∧ RepE K m H env σ ∧ t d env = some e1 ∧ ∀ σ', RepE K m H e1 σ' → (∀ vs : List Nat, (∀ i ∈ is, i ∈ vs) → wipe σ' vs = wipe σ vs) → Q σ' H
def tGs (K : PySem.W.Frag) (ts : List Tg) (is : List Nat) : TGs := fun vs σ H Q => ∃ (m : Mp) (ds : List D) (env e1 : Env), RepL K m H ds vs ∧ RepE K m H env σ ∧ gTs ts ds env = some e1 ∧ ∀ σ', RepE K m H e1 σ' → (∀ vs : List Nat, (∀ i ∈ is, i ∈ vs) → wipe σ' vs = wipe σ vs) → Q σ' H
theorem wipe_set {σ : List (Option V)} {i : Nat} {o : Option V} : ∀ {vs : List Nat}, i ∈ vs → wipe (σ.set i o) vs = wipe σ vs
  | v :: vs, h => by
    unfold wipe
    by_cases hv : i ∈ vs
    · rw [wipe_set hv]
    · have e : i = v := by
        rcases List.mem_cons.mp h with e | e
        · exact e
        · exact absurd e hv
      subst e
      have q : ∀ vs : List Nat, i ∉ vs → wipe (σ.set i o) vs = (wipe σ vs).set i o := by
        intro vs
        induction vs with
        | nil => intro _; rfl
        | cons u us ih =>
          intro hu
          have hu1 : i ≠ u := fun z => hu (by rw [z]; exact List.mem_cons_self)
          have hu2 : i ∉ us := fun z => hu (List.mem_cons_of_mem _ z)
          unfold wipe
          rw [ih hu2, List.set_comm _ _ hu1]
      rw [q vs hv, List.set_set]
theorem _root_.L2.PG.imp {X : Cx} {e : Expr} {t t' : TG} (h : PG X e t) (q : ∀ v σ H Q, t' v σ H Q → t v σ H Q) : PG X e t' := ⟨fun pins s σ H v u Q I r w => h.run pins s σ H v u Q I r (q v σ H Q w)⟩
theorem _root_.L2.PGs.imp {X : Cx} {e : List Expr} {t t' : TGs} (h : PGs X e t) (q : ∀ v σ H Q, t' v σ H Q → t v σ H Q) : PGs X e t' := ⟨fun pins s σ H v u Q I r w => h.run pins s σ H v u Q I r (q v σ H Q w)⟩
theorem pdg_name {i : Nat} {e : Expr} (h : PG X e (gName i)) : PG X e (tG X.K (gN i) [i]) := h.imp fun v σ H Q ⟨m, d, env, e1, r, re, ht, q⟩ => by
  cases ht
  exact q _ (re.set i r) fun vs hv => wipe_set (hv i List.mem_cons_self)
theorem pdgs_nil : PGs X [] (tGs X.K [] []) := pgs_nil.imp fun vs σ H Q ⟨m, ds, env, e1, r, re, ht, q⟩ => by
  cases ds with
  | nil =>
    cases r
    cases ht
    exact ⟨rfl, q _ re fun _ _ => rfl⟩
  | cons d ds => cases ht
theorem pdgs_cons {e : Expr} {es : List Expr} {t : Tg} {ts : List Tg} {is js : List Nat} (h1 : PG X e (tG X.K t is)) (h2 : PGs X es (tGs X.K ts js)) (hs : (assignEach (e :: es) X.env).map (·.2) = assign e X.env :: (assignEach es X.env).map (·.2) := by rfl) :
    PGs X (e :: es) (tGs X.K (t :: ts) (is ++ js)) := (pgs_cons h1 h2 hs).imp fun vs σ H Q ⟨m, ds, env, e1, r, re, ht, q⟩ => by
  cases ds with
  | nil => cases ht
  | cons d ds =>
    cases r with
    | cons r1 r2 =>
      unfold gTs at ht
      cases e2 : t d env with
      | none => rw [e2] at ht; cases ht
      | some e' =>
        rw [e2] at ht
        exact ⟨_, _, rfl, m, d, env, e', r1, re, e2, fun σ' re' hw => ⟨m, ds, e', e1, r2, re', ht, fun σ2 re2 hw2 => q σ2 re2 fun vs hv => (hw2 vs fun i hi => hv i (List.mem_append_right _ hi)).trans (hw vs fun i hi => hv i (List.mem_append_left _ hi))⟩⟩
theorem gTs_len : ∀ {ts : List Tg} {ds : List D} {env e1 : Env}, gTs ts ds env = some e1 → ds.length = ts.length
  | [], [], _, _, _ => rfl
  | [], _ :: _, _, _, h => by cases h
  | _ :: _, [], _, _, h => by cases h
  | t :: ts, d :: ds, env, e1, h => by
    unfold gTs at h
    cases e2 : t d env with
    | none => rw [e2] at h; cases h
    | some e' =>
      rw [e2] at h
      rw [List.length_cons, List.length_cons, gTs_len h]
theorem pdg_tup {es : List Expr} {k : Nat} {pos : Pos} {ts : List Tg} {is : List Nat} (hc : X.calm = true) (h : PGs X es (tGs X.K ts is))
    (hn : (assignEach es X.env).length = ts.length := by rfl) (hst : (assignEach es X.env).findIdx? (·.1) = none := by rfl) : PG X (.Tuple es k pos) (tG X.K (gT ts) is) := (pg_tup hc h hn hst).imp fun v σ H Q ⟨m, d, env, e1, r, re, ht, q⟩ => by
  cases d with
  | tup ds =>
    cases r with
    | tup hs hl =>
      have ht : gTs ts ds env = some e1 := ht
      exact ⟨_, _, rfl, hs, by rw [← hl.length]; exact gTs_len ht, m, ds, env, e1, hl, re, ht, q⟩
  | _ => cases ht

/-! ### blocks, small statements -/
theorem PostS.fin {g : G} {e : Env} {Dn : Ends} (h : PostS g m H b st Dn (.nx e st)) (R : RepS g.w g.K m H st) (re : RepE g.K m H e σ) : Dn.nx σ H := h σ H m (.refl R) re
theorem pds_nil : PDSs X cl W [] sNx := pss_nil.imp fun Dn σ H ⟨m, b, st, env, p, h⟩ => h σ H m (.refl p.rep) p.env
theorem PostS.seq {g : G} {f : Fl} {k : Stm} {Dn : Ends} (h : PostS g m H b st Dn (match f with
  | .nx e s => k b e s
  | .rt d s => .rt d s
  | .bk e s => .bk e s
  | .ct e s => .ct e s
  | .er x e s => .er x e s
  | .no => .no)) : PostS g m H b st { Dn with nx := fun σ' H' => ∃ m1 st1 e, To g.w g.K m H b st m1 H' st1 ∧ RepE g.K m1 H' e σ' ∧ PostS g m1 H' b st1 Dn (k b e st1) } f := by
  cases f with
  | nx e s => exact fun σ' H' m' x re => ⟨m', s, e, x, re, PostS.shift h x⟩
  | rt d s => exact h
  | bk e s => exact h
  | ct e s => exact h
  | er x e s => exact h
  | no => exact h
theorem pds_cons {s : Stmt} {ss : List Stmt} {f k : Stm} (h1 : PDS X cl W s f) (h2 : PDSs X cl W ss k) : PDSs X cl W (s :: ss) (sSeq f k) := (pss_cons h1 h2).imp fun Dn σ H ⟨m, b, st, env, p, h⟩ => by
  refine ⟨m, b, st, env, p, ?_⟩
  have h := PostS.seq (k := k) h
  generalize f b env st = fl at h
  cases fl with
  | nx e s =>
    intro σ' H' m' x re
    obtain ⟨m1, st1, e1, x1, re1, q⟩ := h σ' H' m' x re
    exact ⟨m1, b, st1, e1, ⟨x1.rep, re1, Nat.le_trans p.le x1.old.le⟩, q⟩
  | rt d s => exact h
  | bk e s => exact h
  | ct e s => exact h
  | er x e s => exact h
  | no => exact h
theorem pds_one {s : Stmt} {f : Stm} (h : PDS X cl W s f) : PDSs X cl W [s] f := pss_one h
theorem pds_pass {pos : Pos} : PDS X cl W (.Pass pos) sNx := ps_pass.imp fun Dn σ H ⟨m, b, st, env, p, h⟩ => h σ H m (.refl p.rep) p.env
theorem pds_break {pos : Pos} : PDS X cl W (.Break pos) sBk := ps_break.imp fun Dn σ H ⟨m, b, st, env, p, h⟩ => h σ H m (.refl p.rep) p.env
theorem pds_cont {pos : Pos} : PDS X cl W (.Continue pos) sCt := ps_continue.imp fun Dn σ H ⟨m, b, st, env, p, h⟩ => h σ H m (.refl p.rep) p.env
theorem pds_expr {e : Expr} {pos : Pos} {f : Ex} (he : PD X cl W e f) (hs : swapsWith e none pos.line X.env = pure false := by rfl) : PDS X cl W (.Expr e pos) (sDrop f) := (ps_expr he hs).imp fun Dn σ H ⟨m, b, st, env, p, h⟩ => by
  refine ⟨m, b, st, env, p, ?_⟩
  unfold sDrop at h
  cases e1 : f b env st with
  | ok d s =>
    rw [e1] at h
    exact fun v H' m' x r => h σ H' m' x (p.env.mono x.ext)
  | er x s =>
    rw [e1] at h
    exact fun c dx H' m' t rx => h c dx σ H' m' t (p.env.mono t.ext) rx
  | no =>
    rw [e1] at h
    exact h
theorem pds_ret {e : Expr} {pos : Pos} {f : Ex} (he : PD X cl W e f) : PDS X cl W (.Return (some e) pos) (sRet f) := (ps_ret he).imp fun Dn σ H ⟨m, b, st, env, p, h⟩ => by
  refine ⟨m, b, st, env, p, ?_⟩
  unfold sRet at h
  cases e1 : f b env st with
  | ok d s =>
    rw [e1] at h
    exact h
  | er x s =>
    rw [e1] at h
    exact fun c dx H' m' t rx => h c dx σ H' m' t (p.env.mono t.ext) rx
  | no =>
    rw [e1] at h
    exact h
theorem pds_retN {pos : Pos} : PDS X cl W (.Return none pos) sRetN := ps_retN.imp fun Dn σ H ⟨m, b, st, env, p, h⟩ => h .non H m (.refl p.rep) .non
theorem pds_if {c : Expr} {ss rr : List Stmt} {pos : Pos} {t : Te} {f k : Stm} (hc : PDT X cl W c t) (ha : PDSs X cl W ss f) (hb : PDSs X cl W rr k) : PDS X cl W (.If c ss rr pos) (sIf t f k) := (ps_if hc ha hb).imp fun Dn σ H ⟨m, b, st, env, p, h⟩ => by
  refine ⟨m, b, st, env, p, ?_⟩
  unfold sIf at h
  cases e1 : t b env st with
  | ok d s =>
    rw [e1] at h
    intro v H' m' x r
    subst r
    cases d with
    | true => exact iteT ⟨m', b, s, env, p.to x, PostS.shift h x⟩
    | false => exact iteF ⟨m', b, s, env, p.to x, PostS.shift h x⟩
  | er x s =>
    rw [e1] at h
    exact fun c dx H' m' t rx => h c dx σ H' m' t (p.env.mono t.ext) rx
  | no =>
    rw [e1] at h
    exact h
/-- the watermark raised while an expression runs, then what is not needed given back -/
theorem gc_post {f : Ex} {Q : VK} {b' : Nat} (p : Pre (gX X cl W) m H b st env σ) (h : match f st.sz env st with
    | .ok d s => ∀ v H' m', To X.w X.K m H b st m' H' (gc st.sz d s).2 → Rep X.K m' H' (gc st.sz d s).1 v → Q v H'
    | .er x s => ∀ c dx H' m', To X.w X.K m H b st m' H' s → RepX cl X.K m' H' x c dx → W c dx σ H'
    | .no => False) : tE (gX X cl W) f σ H Q := by
  refine ⟨m, st.sz, st, env, ⟨p.rep, p.env, Nat.le_refl _⟩, ?_⟩
  cases e1 : f st.sz env st with
  | ok d s =>
    rw [e1] at h
    intro v H' m' x r
    obtain ⟨m2, x2, r2⟩ := gc_ok p.rep x p.le r
    exact h v H' m2 x2 r2
  | er x s =>
    rw [e1] at h
    exact fun c dx H' m' t rx => h c dx H' m' (t.mono p.le) rx
  | no =>
    rw [e1] at h
    exact h
theorem pds_asg {tg e : Expr} {t : Tg} {is : List Nat} {f : Ex} {pos : Pos} (he : PD X cl W e f) (hg : PG X tg (tG X.K t is)) (hs : swapsWithSole [tg] e pos.line X.env = pure false := by rfl) (hw : swappedStores [tg] e X.env = pure none := by rfl)
    (h1 : (assignEach [tg] X.env).map (·.2) = [assign tg X.env] := by rfl) : PDS X cl W (.Assign [tg] e pos) (sAsg t f) := (ps_asg he hg hs hw h1).imp fun Dn σ H ⟨m, b, st, env, p, h⟩ => by
  refine gc_post (b' := b) p ?_
  unfold sAsg at h
  cases e1 : f st.sz env st with
  | ok d s =>
    rw [e1] at h
    intro v H' m' x r
    dsimp only at h
    cases e2 : t (gc st.sz d s).1 env with
    | none => rw [e2] at h; exact h.elim
    | some e' =>
      rw [e2] at h
      exact ⟨m', _, env, e', r, p.env.mono x.ext, e2, fun σ' re _ => h σ' H' m' x re⟩
  | er x s =>
    rw [e1] at h
    exact fun c dx H' m' t rx => h c dx σ H' m' t (p.env.mono t.ext) rx
  | no =>
    rw [e1] at h
    exact h
/-- name = e -/
theorem pds_set {x : Str} {e : Expr} {f : Ex} {pos pos' : Pos} {i : Nat} (he : PD X cl W e f) (h0 : PS X (.Assign [.Name x pos'] e pos) (tAsg (tE (gX X cl W) f) (gName i))) : PDS X cl W (.Assign [.Name x pos'] e pos) (sAsg (gN i) f) := h0.imp fun Dn σ H ⟨m, b, st, env, p, h⟩ => by
  refine gc_post (b' := b) p ?_
  unfold sAsg at h
  cases e1 : f st.sz env st with
  | ok d s =>
    rw [e1] at h
    intro v H' m' x r
    dsimp only [gN] at h
    exact h _ H' m' x ((p.env.mono x.ext).set i r)
  | er x s =>
    rw [e1] at h
    exact fun c dx H' m' t rx => h c dx σ H' m' t (p.env.mono t.ext) rx
  | no =>
    rw [e1] at h
    exact h
/-- x op= e of a name: as x = x op e, by the operator's in-place rule -/
theorem pds_aug {e : Expr} {x : Str} {op : Operator} {i : Nat} {pos pos' : Pos} {f : Ex} {o : D → D → Sto → Rs D} {ti : TIp} (h0 : PS X (.AugAssign (.Name x pos') op e pos) (tAug i (tE (gX X cl W) f) ti)) (hs : Sem2 X cl W ti o) :
    PDS X cl W (.AugAssign (.Name x pos') op e pos) (sAug i o f) := h0.imp fun Dn σ H ⟨m, b, st, env, p, h⟩ => by
  unfold sAug sAsg cBin cVar at h
  cases e0 : env[i]? with
  | none => simp only [e0, Rs.bind] at h; exact h.elim
  | some o0 =>
    cases o0 with
    | none => simp only [e0, Rs.bind] at h; exact h.elim
    | some d0 =>
      obtain ⟨v0, hv, r0⟩ := p.env.at' i d0 e0
      refine ⟨v0, hv, ?_⟩
      simp only [e0, Rs.bind] at h
      refine ⟨m, st.sz, st, env, ⟨p.rep, p.env, Nat.le_refl _⟩, ?_⟩
      cases e1 : f st.sz env st with
      | ok d s =>
        simp only [e1] at h
        intro y H1 m1 x1 r1
        refine hs m1 H1 st.sz s σ d0 d v0 y _ x1.rep x1.old.le (r0.mono x1.ext) r1 ?_
        cases e2 : o d0 d s with
        | ok z s2 =>
          simp only [e2] at h
          intro v H' m' x2 r2
          obtain ⟨m2, x3, r3⟩ := gc_ok p.rep (x1.trans x2) p.le r2
          dsimp only [gN] at h
          exact h _ H' m2 x3 ((p.env.mono x3.ext).set i r3)
        | er x s2 =>
          simp only [e2] at h
          exact fun c dx H' m' t rx => h c dx σ H' m' ((x1.trans t).mono p.le) (p.env.mono (x1.trans t).ext) rx
        | no =>
          simp only [e2] at h
          exact h.elim
      | er x s =>
        simp only [e1] at h
        exact fun c dx H' m' t rx => h c dx σ H' m' (t.mono p.le) (p.env.mono t.ext) rx
      | no =>
        simp only [e1] at h
        exact h.elim
end
end DL
end S_DLf
section S_DLg
set_option Elab.async false
set_option linter.all false
set_option maxRecDepth 100000
set_option autoImplicit false
namespace DL
open PySem PySem.Spec PyProof.Rows L2

/-! ### what is walked -/
/-- the walk J goes through what `it` tells, as long as `good` holds -/
structure WkOk (w : World) (K : PySem.W.Frag) (J : It) (it : Nat → Sto → Option (Option D)) (good : Mp → Hp → Prop) : Prop where
  stab : ∀ m H m' H', Ext m H m' H' → good m H → good m' H'
  go : ∀ m H st i d, good m H → RepS w K m H st → it i st = some (some d) → J.go i H
  stop : ∀ m H st i, good m H → RepS w K m H st → it i st = some none → J.stop i H
  yld : ∀ m H st b i d x H', good m H → RepS w K m H st → it i st = some (some d) → J.yld i H x H' → To w K m H b st m H' st ∧ Rep K m H' d x
def PostW (g : G) (m : Mp) (H : Hp) (b : Nat) (st : Sto) (σ : SV) (R : It → Hp → Prop) : Rs Wk → Prop
  | .ok wk st' => ∀ J H' m' good, To g.w g.K m H b st m' H' st' → good m' H' → WkOk g.w g.K J wk.it good → R J H'
  | .er x st' => ∀ c dx H' m', To g.w g.K m H b st m' H' st' → RepX g.cl g.K m' H' x c dx → g.W c dx σ H'
  | .no => False
def tI (g : G) (w : Wx) : TI := fun σ H R => ∃ m b st env, Pre g m H b st env σ ∧ PostW g m H b st σ R (w b env st)
abbrev PDI (X : Cx) (cl : Cls) (W : WX) (tg e : Expr) (w : Wx) : Prop := PI X tg e (tI (gX X cl W) w)
theorem _root_.L2.PI.imp {X : Cx} {tg e : Expr} {t t' : TI} (h : PI X tg e t) (q : ∀ σ H R, t' σ H R → t σ H R) : PI X tg e t' := ⟨fun pins s σ H R I w => h.run pins s σ H R I (q σ H R w)⟩

section
variable {X : Cx} {cl : Cls} {W : WX}
variable {m : Mp} {H : Hp} {b : Nat} {st : Sto} {σ : SV} {env : Env}

/-- the turns of a loop over what is known -/
theorem forS_turns {w : World} {K : PySem.W.Frag} {g : G} (hg : g = ⟨w, K, cl, W⟩) {J : It} {good : Mp → Hp → Prop} {t : Tg} {is : List Nat} {f : Stm} {Dn : Ends} {ds0 : List D} (ok : WkOk w K J (Wk.sn ds0).it good) (p : Pre g m H b st env σ) (hgd : good m H) (h : PostS g m H b st Dn (forS t f b ds0 env st)) :
    ∃ Wv : Nat → Nat → L2.St → Hp → Prop, (∃ k, Wv 0 k σ H) ∧ ∀ i k σ H, Wv i k σ H →
      (J.stop i H ∧ Dn.nx σ H) ∨ (J.go i H ∧ ∃ N : L2.St → Hp → Prop, (∀ σ' H', N σ' H' → ∃ k', k' < k ∧ Wv (i + 1) k' σ' H') ∧
        ∀ x H', J.yld i H x H' → tG K t is x σ H' fun σ2 H2 => tS g f { Dn with nx := N, ct := N, bk := Dn.nx } σ2 H2) := by
  subst hg
  refine ⟨fun i k σ H => k = ds0.length - i ∧ ∃ m st env, Pre ⟨w, K, cl, W⟩ m H b st env σ ∧ good m H ∧ PostS ⟨w, K, cl, W⟩ m H b st Dn (forS t f b (ds0.drop i) env st), ⟨_, rfl, m, st, env, p, hgd, by simpa using h⟩, ?_⟩
  rintro i k σ H ⟨rfl, m, st, env, p, hgd, h⟩
  by_cases hi : i < ds0.length
  · have e0 : (Wk.sn ds0).it i st = some (some ds0[i]) := by
      show some ds0[i]? = _
      rw [List.getElem?_eq_getElem hi]
    have e1 : ds0.drop i = ds0[i] :: ds0.drop (i + 1) := List.drop_eq_getElem_cons hi
    rw [e1] at h
    unfold forS at h
    refine .inr ⟨ok.go m H st i _ hgd p.rep e0, fun σ' H' => ∃ m st env, Pre ⟨w, K, cl, W⟩ m H' b st env σ' ∧ good m H' ∧ PostS ⟨w, K, cl, W⟩ m H' b st Dn (forS t f b (ds0.drop (i + 1)) env st), fun σ' H' ⟨m, st, env, q1, q2, q3⟩ => ⟨ds0.length - (i + 1), by omega, rfl, m, st, env, q1, q2, q3⟩, fun x H' y => ?_⟩
    obtain ⟨t1, r1⟩ := ok.yld m H st b i _ x H' hgd p.rep e0 y
    have p1 := p.to t1
    have hg1 := ok.stab _ _ _ _ t1.ext hgd
    have h := PostS.shift h t1
    cases e2 : t ds0[i] env with
    | none =>
      rw [e2] at h
      exact h.elim
    | some e' =>
      rw [e2] at h
      dsimp only at h
      refine ⟨m, _, env, e', r1, p1.env, e2, fun σ2 re _ => ⟨m, b, st, e', ⟨p1.rep, re, p.le⟩, ?_⟩⟩
      cases e3 : f b e' st with
      | nx e s =>
        rw [e3] at h
        intro σ3 H3 m3 x3 re3
        exact ⟨m3, s, e, ⟨x3.rep, re3, Nat.le_trans p.le x3.old.le⟩, ok.stab _ _ _ _ x3.ext hg1, PostS.shift h x3⟩
      | ct e s =>
        rw [e3] at h
        intro σ3 H3 m3 x3 re3
        exact ⟨m3, s, e, ⟨x3.rep, re3, Nat.le_trans p.le x3.old.le⟩, ok.stab _ _ _ _ x3.ext hg1, PostS.shift h x3⟩
      | bk e s => rw [e3] at h; exact h
      | rt d s => rw [e3] at h; exact h
      | er x e s => rw [e3] at h; exact h
      | no => rw [e3] at h; exact h
  · have e0 : (Wk.sn ds0).it i st = some none := by
      show some ds0[i]? = _
      rw [List.getElem?_eq_none (by omega)]
    rw [List.drop_eq_nil_of_le (by omega)] at h
    exact .inl ⟨ok.stop m H st i hgd p.rep e0, h σ H m (.refl p.rep) p.env⟩
/-- .. over what may change meanwhile -/
theorem forL_turns {w : World} {K : PySem.W.Frag} {g : G} (hg : g = ⟨w, K, cl, W⟩) {J : It} {good : Mp → Hp → Prop} {t : Tg} {is : List Nat} {f : Stm} {Dn : Ends} {it : Nat → Sto → Option (Option D)} (ok : WkOk w K J it good) (p : Pre g m H b st env σ) (hgd : good m H) {n : Nat} (h : PostS g m H b st Dn (forL it t f b n 0 env st)) :
    ∃ Wv : Nat → Nat → L2.St → Hp → Prop, (∃ k, Wv 0 k σ H) ∧ ∀ i k σ H, Wv i k σ H →
      (J.stop i H ∧ Dn.nx σ H) ∨ (J.go i H ∧ ∃ N : L2.St → Hp → Prop, (∀ σ' H', N σ' H' → ∃ k', k' < k ∧ Wv (i + 1) k' σ' H') ∧
        ∀ x H', J.yld i H x H' → tG K t is x σ H' fun σ2 H2 => tS g f { Dn with nx := N, ct := N, bk := Dn.nx } σ2 H2) := by
  subst hg
  refine ⟨fun i k σ H => ∃ m st env, Pre ⟨w, K, cl, W⟩ m H b st env σ ∧ good m H ∧ PostS ⟨w, K, cl, W⟩ m H b st Dn (forL it t f b k i env st), ⟨n, m, st, env, p, hgd, h⟩, ?_⟩
  rintro i k σ H ⟨m, st, env, p, hgd, h⟩
  cases k with
  | zero => exact h.elim
  | succ k =>
    unfold forL at h
    cases e0 : it i st with
    | none => rw [e0] at h; exact h.elim
    | some o =>
      rw [e0] at h
      cases o with
      | none => exact .inl ⟨ok.stop m H st i hgd p.rep e0, h σ H m (.refl p.rep) p.env⟩
      | some d =>
        refine .inr ⟨ok.go m H st i _ hgd p.rep e0, fun σ' H' => ∃ m st env, Pre ⟨w, K, cl, W⟩ m H' b st env σ' ∧ good m H' ∧ PostS ⟨w, K, cl, W⟩ m H' b st Dn (forL it t f b k (i + 1) env st), fun σ' H' ⟨m, st, env, q1, q2, q3⟩ => ⟨k, by omega, m, st, env, q1, q2, q3⟩, fun x H' y => ?_⟩
        obtain ⟨t1, r1⟩ := ok.yld m H st b i _ x H' hgd p.rep e0 y
        have p1 := p.to t1
        have hg1 := ok.stab _ _ _ _ t1.ext hgd
        have h := PostS.shift h t1
        cases e2 : t d env with
        | none =>
          simp only [e2] at h
          exact h.elim
        | some e' =>
          simp only [e2] at h
          refine ⟨m, _, env, e', r1, p1.env, e2, fun σ2 re _ => ⟨m, b, st, e', ⟨p1.rep, re, p.le⟩, ?_⟩⟩
          cases e3 : f b e' st with
          | nx e s =>
            rw [e3] at h
            intro σ3 H3 m3 x3 re3
            exact ⟨m3, s, e, ⟨x3.rep, re3, Nat.le_trans p.le x3.old.le⟩, ok.stab _ _ _ _ x3.ext hg1, PostS.shift h x3⟩
          | ct e s =>
            rw [e3] at h
            intro σ3 H3 m3 x3 re3
            exact ⟨m3, s, e, ⟨x3.rep, re3, Nat.le_trans p.le x3.old.le⟩, ok.stab _ _ _ _ x3.ext hg1, PostS.shift h x3⟩
          | bk e s => rw [e3] at h; exact h
          | rt d s => rw [e3] at h; exact h
          | er x e s => rw [e3] at h; exact h
          | no => rw [e3] at h; exact h
theorem pds_for {tg iter : Expr} {body : List Stmt} {pos : Pos} {w : Wx} {t : Tg} {is : List Nat} {f : Stm} (hp : PassesOwn (model X.prog X.w) X.A X.env X.xe) (hc : X.calm = true) (hi : PDI X cl W tg iter w) (hg : PG X tg (tG X.K t is)) (hb : PDSs X cl W body f)
    (hs : ∀ x, foldedSetIterable iter X.env x = pure x := by intro _; rfl) : PDS X cl W (.For tg iter body [] pos) (sFor w t f) := (ps_for hp hc hi hg hb hs).imp fun Dn σ H ⟨m, b, st, env, p, h⟩ => by
  refine ⟨m, b, st, env, p, ?_⟩
  unfold sFor at h
  cases e1 : w b env st with
  | ok wk s =>
    intro J H' m' good x hgd ok
    have p1 := p.to x
    cases wk with
    | sn ds =>
      simp only [e1] at h
      exact forS_turns rfl ok p1 hgd (PostS.shift h x)
    | lv it =>
      simp only [e1] at h
      exact forL_turns rfl ok p1 hgd (PostS.shift h x)
  | er x s =>
    simp only [e1] at h
    exact fun c dx H' m' t rx => h c dx σ H' m' t (p.env.mono t.ext) rx
  | no =>
    simp only [e1] at h
    exact h
/-- a test, what it made given back -/
theorem tst_post {t : Te} {Q : Bool → Hp → Prop} (p : Pre (gX X cl W) m H b st env σ) (h : match t st.sz env st with
    | .ok k s => ∀ H' m', To X.w X.K m H b st m' H' (s.pop st.sz) → Q k H'
    | .er x s => ∀ c dx H' m', To X.w X.K m H b st m' H' s → RepX cl X.K m' H' x c dx → W c dx σ H'
    | .no => False) : tT (gX X cl W) t σ H Q := by
  refine ⟨m, st.sz, st, env, ⟨p.rep, p.env, Nat.le_refl _⟩, ?_⟩
  cases e1 : t st.sz env st with
  | ok d s =>
    rw [e1] at h
    intro v H' m' x r
    subst r
    exact h H' _ (x.pop p.rep p.le)
  | er x s =>
    rw [e1] at h
    exact fun c dx H' m' t rx => h c dx H' m' (t.mono p.le) rx
  | no =>
    rw [e1] at h
    exact h
theorem pds_while {c : Expr} {body : List Stmt} {pos : Pos} {t : Te} {f : Stm} (hp : PassesOwn (model X.prog X.w) X.A X.env X.xe) (hc : PDT X cl W c t) (hb : PDSs X cl W body f) : PDS X cl W (.While c body [] pos) (sWhile t f) := (ps_while hp hc hb).imp fun Dn σ H ⟨m, b, st, env, p, h⟩ => by
  unfold sWhile at h
  refine ⟨fun k σ H => ∃ m st env, Pre (gX X cl W) m H b st env σ ∧ PostS (gX X cl W) m H b st Dn (whileN t f b k env st), ⟨_, m, st, env, p, h⟩, ?_⟩
  rintro k σ H ⟨m, st, env, p, h⟩
  cases k with
  | zero => exact h.elim
  | succ k =>
    unfold whileN at h
    refine tst_post p ?_
    cases e1 : t st.sz env st with
    | ok d s =>
      rw [e1] at h
      intro H' m' x
      have p1 := p.to x
      cases d with
      | true =>
        refine iteT ⟨fun σ' H' => ∃ m st env, Pre (gX X cl W) m H' b st env σ' ∧ PostS (gX X cl W) m H' b st Dn (whileN t f b k env st), fun σ' H' ⟨m, st, env, q1, q2⟩ => ⟨k, Nat.lt_succ_self _, m, st, env, q1, q2⟩, m', b, s.pop st.sz, env, p1, ?_⟩
        have h := PostS.shift h x
        dsimp only at h
        cases e3 : f b env (s.pop st.sz) with
        | nx e s =>
          rw [e3] at h
          intro σ3 H3 m3 x3 re3
          exact ⟨m3, s, e, ⟨x3.rep, re3, Nat.le_trans p1.le x3.old.le⟩, PostS.shift h x3⟩
        | ct e s =>
          rw [e3] at h
          intro σ3 H3 m3 x3 re3
          exact ⟨m3, s, e, ⟨x3.rep, re3, Nat.le_trans p1.le x3.old.le⟩, PostS.shift h x3⟩
        | bk e s => rw [e3] at h; exact h
        | rt d s => rw [e3] at h; exact h
        | er x e s => rw [e3] at h; exact h
        | no => rw [e3] at h; exact h
      | false => exact iteF (h σ H' m' x (p.env.mono x.ext))
    | er x s =>
      rw [e1] at h
      exact fun c dx H' m' t rx => h c dx σ H' m' t (p.env.mono t.ext) rx
    | no => rw [e1] at h; exact h.elim

/-! ### a def, called -/
/-- what a def promises -/
def spD (w : World) (K : PySem.W.Frag) (cl : Cls) (n : Nat) (F : Fn) : Sp := fun vs H Q E => ∃ m st ds, RepS w K m H st ∧ RepL K m H ds vs ∧ ds.length = n ∧ match F ds st with
  | .ok d st' => ∀ v H' m', To w K m H st.sz st m' H' st' → Rep K m' H' d v → Q v H'
  | .er x st' => ∀ c dx H' m', To w K m H st.sz st m' H' st' → RepX cl K m' H' x c dx → E c dx H'
  | .no => False
structure Callee (P : Program) (w : World) (K : PySem.W.Frag) (mg : Str → Option Value) (base : Heap) (cl : Cls) (k : Nat) (x : Str) (ps : List Str) (F : Fn) : Prop where
  len : ∀ ds st, ds.length ≠ ps.length → F ds st = .no
  ex : ∃ f fd, mg x = some (.ref f) ∧ PySem.W.keepIn K (.ref f) = true ∧ Binds K fd ps [] ∧ FnOk P w K mg base (L2N.CX P w) k f fd ps (spD w K cl ps.length F)
theorem pd_call {k : Nat} {x : Str} {ps : List Str} {F : Fn} {e : Expr} {es : List Expr} {p pos : Pos} {fa : Ar} (C : Callee X.prog X.w X.K X.mg X.base cl k x ps F) (hr : Room k X.A) (hg : Gl X x) (tk : L2N.Takes X W)
    (ha : PDA X cl W (e :: es) fa) (hdb : (x == ("__debug__" : Str)) = false := by decide) (he : starEach (e :: es) X.env = (false, eval e X.env) :: starEach es X.env := by rfl) (hpl : (backTo pos (starEach es X.env)).any (·.1) = false := by rfl) :
    PD X cl W (.Call (.Name x p) (e :: es) [] pos) (cCall F fa) := by
  obtain ⟨f, fd, h1, h2, h3, h4⟩ := C.ex
  refine (pe_callSD (dvs := []) (ds := []) (E := fun σ c dx H' => W c dx σ H') h4 hr hg h1 h2 h3 .nil (fun σ pins H s e s' I c => tk e s' (L2N.XE.of_call I (fun cls d H' h => h) c)) ha hdb he hpl).imp fun σ H Q ⟨m, b, st, env, p, h⟩ => ?_
  refine ⟨m, b, st, env, p, (PostA.bind (R := RepL X.K) h).imp fun vs H1 ⟨m1, st1, ds, t1, r1, h1⟩ => ?_⟩
  have p1 := p.to t1
  by_cases hlen : ds.length = ps.length
  · refine ⟨m1, st1, ds, p1.rep, by simpa using r1, hlen, ?_⟩
    cases e1 : F ds st1 with
    | ok d s =>
      rw [e1] at h1
      exact fun v H' m' x r => h1 v H' m' (x.mono p1.le) r
    | er x s =>
      rw [e1] at h1
      exact fun c dx H' m' x r => h1 c dx H' m' (x.mono p1.le) r
    | no => rw [e1] at h1; exact h1
  · rw [C.len ds st1 hlen] at h1
    exact h1.elim
theorem getE_append_none {α : Type} {a : List (Option α)} {n i : Nat} {d : α} (h : (a ++ List.replicate n none)[i]? = some (some d)) : a[i]? = some (some d) := by
  by_cases hi : i < a.length
  · rwa [List.getElem?_append_left hi] at h
  · rw [List.getElem?_append_right (by omega), List.getElem?_replicate] at h
    split at h <;> cases h
theorem rep_start {K : PySem.W.Frag} {N : List Str} {ds : List D} {vs : List V} (r : RepL K m H ds vs) : RepE K m H (ds.map some ++ List.replicate (N.length - ds.length) none) (L2.start N vs) := by
  unfold L2.start
  have hl := r.length
  refine ⟨by rw [List.length_append, List.length_append, List.length_map, List.length_map, List.length_replicate, List.length_replicate, hl], fun i d h => ?_⟩
  have h := getE_append_none h
  rw [List.getElem?_map] at h
  cases e : ds[i]? with
  | none => rw [e] at h; cases h
  | some d' =>
    rw [e] at h
    cases h
    obtain ⟨v, h1, h2⟩ := r.get (i := i) e
    refine ⟨v, ?_, h2⟩
    have hi : i < vs.length := (List.getElem?_eq_some_iff.mp h1).1
    rw [List.getElem?_append_left (by rw [List.length_map]; exact hi), List.getElem?_map, h1]
    rfl
/-- THE RULE for a def -/
theorem okD {P : Program} {w : World} {K : PySem.W.Frag} {mg : Str → Option Value} {base : Heap} {x qual : Str} {st : Stmt} {f : Addr} {fd : FuncData} {N ps : List Str} {k : Nat} {fb : Stm} (F : Fun K x qual st f fd) (S : FnScope N ps (defScope st))
    (hbody : ∀ (cdv : Value) (A : Around) (outer : List PySem.Env) (s : Shared) (H : Hp) (E : XK), Room k (A.deeper (envOfC qual (defScope st) s.heap.objs.size f cdv)) →
      PSs (cxOf (L2N.CX P w) P w K mg base N qual (defScope st) f cdv A outer s H E) (defBody st) (tS ⟨w, K, cl, fun c dx _ H => E c dx H⟩ fb)) :
    FnOk P w K mg base (L2N.CX P w) (k + 1) f fd ps (spD w K cl ps.length (fnD N.length ps.length fb)) := by
  obtain ⟨oc, od, kV, doc, pm, an, cdv0, ct, osl, rfl, lk, hcd⟩ := F.ex
  refine fn_of lk hcd S (fun vs H Q E h => ?_) (fun A outer s H vs Q E hr h => ?_)
  · obtain ⟨m, st, ds, _, r, hl, _⟩ := h
    rw [← r.length, hl]
  · obtain ⟨m, st0, ds, R, r, hl, h⟩ := h
    refine ⟨_, hbody cdv0 A outer s H E hr, m, st0.sz, st0, _, ⟨R, rep_start r, Nat.le_refl _⟩, ?_⟩
    unfold fnD at h
    rw [if_pos hl] at h
    rw [hl]
    cases e1 : fb st0.sz (ds.map some ++ List.replicate (N.length - ps.length) none) st0 with
    | rt d s =>
      rw [e1] at h
      intro v H' m' x rr
      obtain ⟨m2, x2, r2⟩ := gc_ok R x (Nat.le_refl _) rr
      exact h v H' m2 x2 r2
    | nx e s =>
      rw [e1] at h
      intro σ' H' m' x re
      exact h .non H' _ (x.pop R (Nat.le_refl _)) .non
    | er x e s =>
      rw [e1] at h
      exact fun c dx σ' H' m' t re rx => h c dx H' m' t rx
    | bk e s => rw [e1] at h; exact h.elim
    | ct e s => rw [e1] at h; exact h.elim
    | no => rw [e1] at h; exact h.elim
end
end DL
end S_DLg
section S_DLh
set_option Elab.async false
set_option linter.all false
set_option maxRecDepth 100000
set_option autoImplicit false
namespace DL
open PySem PySem.Spec PyProof.Rows L2

/-! ### comprehensions -/
def wipeE (env : Env) : List Nat → Env
  | [] => env
  | v :: vs => (wipeE env vs).set v none
def lcS (t : Tg) (tt : Te) (te : Ex) (env : Env) : List D → Sto → Rs (List D)
  | [], st => .ok [] st
  | d :: r, st => match t d env with
    | none => .no
    | some e => match tt st.sz e st with
      | .ok false s => lcS t tt te env r (s.pop st.sz)
      | .ok true s => match te st.sz e (s.pop st.sz) with
        | .ok y s2 => match gc st.sz y s2 with
          | (y', s3) => match lcS t tt te env r s3 with
            | .ok ys s4 => .ok (y' :: ys) s4
            | _ => .no
        | _ => .no
      | _ => .no
def lcL (it : Nat → Sto → Option (Option D)) (t : Tg) (tt : Te) (te : Ex) (env : Env) : Nat → Nat → Sto → Rs (List D)
  | 0, _, _ => .no
  | k + 1, i, st => match it i st with
    | none => .no
    | some none => .ok [] st
    | some (some d) => match t d env with
      | none => .no
      | some e => match tt st.sz e st with
        | .ok false s => lcL it t tt te env k (i + 1) (s.pop st.sz)
        | .ok true s => match te st.sz e (s.pop st.sz) with
          | .ok y s2 => match gc st.sz y s2 with
            | (y', s3) => match lcL it t tt te env k (i + 1) s3 with
              | .ok ys s4 => .ok (y' :: ys) s4
              | _ => .no
          | _ => .no
        | _ => .no
def lcW (t : Tg) (tt : Te) (te : Ex) (env : Env) (wk : Wk) (st : Sto) : Rs (List D) := match wk with
  | .sn ds => if Nat.ble ds.length FUEL = true then lcS t tt te env ds st else .no
  | .lv it => lcL it t tt te env FUEL 0 st
def cLc (w : Wx) (t : Tg) (tt : Te) (te : Ex) (own : List Nat) : Ex := fun b env st => (w b env st).bind fun wk s => match lcW t tt te (wipeE env own) wk s with
  | .ok ys s4 => .ok (.ref s4.sz) (s4.push (.lst ys))
  | _ => .no
def tYesT : Te := fun _ _ st => .ok true st

section
variable {w : World} {K : PySem.W.Frag} {m m' m0 : Mp} {H H' H0 : Hp} {st st' st0 : Sto} {b : Nat} {p a : Addr}
mutual
theorem Rep.mono0 (mm : ∀ n a, m n = some a → m' n = some a) (tt : ∀ a xs, Rd H a (.tup xs) → Rd H' a (.tup xs)) : ∀ {d : D} {v : V}, Rep K m H d v → Rep K m' H' d v
  | _, _, .non => .non
  | _, _, .bl b => .bl b
  | _, _, .int i => .int i
  | _, _, .str z => .str z
  | _, _, .ref h => .ref (mm _ _ h)
  | _, _, .tup h r => .tup (by
      rcases h with h | h
      · exact .inl (tt _ _ h)
      · exact .inr h) (RepL.mono0 mm tt r)
theorem RepL.mono0 (mm : ∀ n a, m n = some a → m' n = some a) (tt : ∀ a xs, Rd H a (.tup xs) → Rd H' a (.tup xs)) : ∀ {ds : List D} {vs : List V}, RepL K m H ds vs → RepL K m' H' ds vs
  | _, _, .nil => .nil
  | _, _, .cons h r => .cons (Rep.mono0 mm tt h) (RepL.mono0 mm tt r)
end
theorem RepU.mono0 (mm : ∀ n a, m n = some a → m' n = some a) (tt : ∀ a xs, Rd H a (.tup xs) → Rd H' a (.tup xs)) {a : Addr} {o : O} {u : HO} (r : RepU w K m H a o u) : RepU w K m' H' a o u := by
  induction r with
  | lst h => exact .lst (h.mono0 mm tt)
  | dk h => exact .dk (Paired.mapP h fun p q z => ⟨z.1, z.2.mono0 mm tt⟩)
  | dg g h => exact .dg g (Paired.mapP h fun p q z => ⟨z.1, z.2.1.mono0 mm tt, z.2.2.mono0 mm tt⟩)
  | lk _ ih => exact .lk ih
theorem RepE.mono0 (mm : ∀ n a, m n = some a → m' n = some a) (tt : ∀ a xs, Rd H a (.tup xs) → Rd H' a (.tup xs)) {env : Env} {σ : SV} (r : RepE K m H env σ) : RepE K m' H' env σ :=
  ⟨r.len, fun i d e => by
    obtain ⟨v, h1, h2⟩ := r.at' i d e
    exact ⟨v, h1, h2.mono0 mm tt⟩⟩
theorem tups_keep {D : Addr} {u : HO} {xs : List V} (hD : H D = some (.lst xs)) : ∀ a ys, Rd H a (.tup ys) → Rd (upd H D u) a (.tup ys) := fun a ys h => by
  have e : a ≠ D := fun z => by
    subst z
    rcases h with h | ⟨_, h⟩ <;> (rw [hD] at h; cases h)
  rcases h with h | ⟨ob, h⟩
  · exact .inl (by rw [upd_ne e]; exact h)
  · exact .inr ⟨ob, by rw [upd_ne e]; exact h⟩
/-- an untold new list at D is changed -/
theorem To.side {D : Addr} {u : HO} {xs : List V} (x : To w K m0 H0 b st0 m H st) (h0 : H0 D = none) (hD : H D = some (.lst xs)) (hn : ∀ n, m n ≠ some D) : To w K m0 H0 b st0 m (upd H D u) st where
  ext := ⟨x.ext.mm, x.ext.nw, fun a o h q => by
    rw [upd_ne (ne_of_none h h0)]
    exact x.ext.fr a o h q, fun a o h => by
    rw [upd_ne (ne_of_none h h0)]
    exact x.ext.th a o h, fun a ys h => by
    have e : a ≠ D := by
      rcases h with h | ⟨_, h⟩
      · exact ne_of_none h h0
      · exact ne_of_none h h0
    have h := x.ext.tt a ys h
    unfold Rd at h ⊢
    rw [upd_ne e]
    exact h, fun a ob v h => by
    rw [upd_ne (ne_of_none h h0)]
    exact x.ext.ff a ob v h⟩
  rep := ⟨fun n o h => by
    obtain ⟨a, v, h1, h2, h3⟩ := x.rep.obj n o h
    exact ⟨a, v, h1, by rw [upd_ne (fun z => hn n (by rw [← z]; exact h1))]; exact h2, h3.mono0 (fun _ _ z => z) (tups_keep hD)⟩, fun n a h => by
    obtain ⟨h1, v, h2, h3⟩ := x.rep.dom n a h
    have e : a ≠ D := fun z => hn n (by rw [← z]; exact h)
    refine ⟨h1, v, by rw [upd_ne e]; exact h2, fun xs z => h3 xs ?_⟩
    unfold Rd at z ⊢
    rw [upd_ne e] at z
    exact z, x.rep.inj⟩
  old := x.old
/-- .. and told at last -/
theorem To.adopt {D : Addr} {ds : List DL.D} {xs : List V} (x : To w K m0 H0 b st0 m H st) (hb : b ≤ st0.sz) (h0 : H0 D = none) (hD : H D = some (.lst xs)) (hn : ∀ n, m n ≠ some D) (r : RepL K m H ds xs) : To w K m0 H0 b st0 (m.add st.sz D) H (st.push (.lst ds)) where
  ext := ⟨fun n a h => by
    have h := x.ext.mm n a h
    rw [Mp.add_ne (Nat.ne_of_lt (x.rep.dom n a h).1)]
    exact h, fun n a h => by
    by_cases e : n = st.sz
    · subst e
      rw [Mp.add_self] at h
      cases h
      exact .inr h0
    · rw [Mp.add_ne e] at h
      exact x.ext.nw n a h, x.ext.fr, x.ext.th, x.ext.tt, x.ext.ff⟩
  rep := by
    have mm : ∀ n a, m n = some a → (m.add st.sz D) n = some a := fun n a h => by
      rw [Mp.add_ne (Nat.ne_of_lt (x.rep.dom n a h).1)]
      exact h
    refine ⟨fun n o h => ?_, fun n a h => ?_, fun k l c h1 h2 => ?_⟩
    · by_cases e : n = st.sz
      · subst e
        rw [get_push_self] at h
        cases h
        exact ⟨D, _, Mp.add_self, hD, .lst (r.mono0 mm fun _ _ z => z)⟩
      · rw [get_push_ne e] at h
        obtain ⟨a, v, h1, h2, h3⟩ := x.rep.obj n o h
        exact ⟨a, v, mm n a h1, h2, h3.mono0 mm fun _ _ z => z⟩
    · by_cases e : n = st.sz
      · subst e
        rw [Mp.add_self] at h
        cases h
        exact ⟨Nat.lt_succ_self _, _, hD, fun xs z => by rcases z with z | ⟨_, z⟩ <;> (rw [hD] at z; cases z)⟩
      · rw [Mp.add_ne e] at h
        obtain ⟨q1, q2⟩ := x.rep.dom n a h
        exact ⟨Nat.lt_succ_of_lt q1, q2⟩
    · by_cases e : k = st.sz
      · by_cases e' : l = st.sz
        · rw [e, e']
        · subst e
          rw [Mp.add_self] at h1
          cases h1
          rw [Mp.add_ne e'] at h2
          exact absurd h2 (hn l)
      · by_cases e' : l = st.sz
        · subst e'
          rw [Mp.add_self] at h2
          cases h2
          rw [Mp.add_ne e] at h1
          exact absurd h1 (hn k)
        · rw [Mp.add_ne e] at h1
          rw [Mp.add_ne e'] at h2
          exact x.rep.inj k l c h1 h2
  old := x.old.trans (.push _ (Nat.le_trans hb x.old.le))
/-- what is not told stays untold -/
theorem Ext.untold {D : Addr} {o : HO} (x : Ext m H m' H') (hD : H D = some o) (hn : ∀ n, m n ≠ some D) : H' D = some o ∧ ∀ n, m' n ≠ some D :=
  ⟨x.fr D o hD hn, fun n h => by
    rcases x.nw n D h with z | z
    · exact hn n z
    · rw [hD] at z
      cases z⟩
theorem wipe_rep {env : Env} {σ : SV} (r : RepE K m H env σ) : ∀ vs : List Nat, RepE K m H (wipeE env vs) (wipe σ vs)
  | [] => r
  | v :: vs => by
    unfold wipeE wipe
    exact (wipe_rep r vs).unset v none
theorem wipe_none {σ : SV} : ∀ (vs : List Nat) (i : Nat), i ∈ vs → i < σ.length → (wipe σ vs)[i]? = some none
  | [], i, h, _ => by simp at h
  | v :: vs, i, h, hl => by
    unfold wipe
    by_cases e : v = i
    · subst e
      rw [List.getElem?_set_self (by rw [wipe_length]; exact hl)]
    · rw [List.getElem?_set_ne e]
      exact wipe_none vs i (by
        rcases List.mem_cons.mp h with z | z
        · exact absurd z.symm e
        · exact z) hl
theorem wipe_twice {σ : SV} (vs : List Nat) : ∀ us : List Nat, (∀ u ∈ us, u ∈ vs) → wipe (wipe σ vs) us = wipe σ vs
  | [], _ => rfl
  | u :: us, h => by
    have e : wipe (wipe σ vs) (u :: us) = (wipe (wipe σ vs) us).set u none := rfl
    rw [e, wipe_twice vs us fun x hx => h x (List.mem_cons_of_mem _ hx)]
    by_cases hl : u < σ.length
    · apply List.ext_getElem?
      intro j
      by_cases e : u = j
      · subst e
        rw [List.getElem?_set_self (by rw [wipe_length]; exact hl)]
        exact (wipe_none vs u (h u List.mem_cons_self) hl).symm
      · rw [List.getElem?_set_ne e]
    · rw [List.set_eq_of_length_le (by rw [wipe_length]; omega)]
end

theorem _root_.L2.PTs.imp' {X : Cx} {e : List Expr} {t t' : TT} (h : PTs X e t) (q : ∀ σ H Q, t' σ H Q → t σ H Q) : PTs X e t' := ⟨fun pins s σ H Q I w => h.run pins s σ H Q I (q σ H Q w)⟩
/-- no exception is wished for -/
abbrev W0 : WX := fun _ _ _ _ => False
section
variable {X : Cx} {cl : Cls} {W : WX}
variable {m : Mp} {H : Hp} {b : Nat} {st : Sto} {σ : SV} {env : Env}
def lcEnd (acc : List D) : Rs (List D) → Rs D
  | .ok ys s => .ok (.ref s.sz) (s.push (.lst (acc ++ ys)))
  | _ => .no
/-- one turn: the item's store, the test, the element -/
theorem lc_turn {w : World} {K : PySem.W.Frag} {g : G} (hg : g = ⟨w, K, cl, W⟩) {m0 m1 : Mp} {H0 H1 : Hp} {st0 : Sto} {D : Addr} {t : Tg} {is own : List Nat} {tt : Te} {te : Ex} {env0 : Env} {σ0 : SV} {Q : VK} {d : DL.D} {xv : V} {accD : List DL.D} {accV : List V}
    (p1 : To w K m0 H0 b st0 m1 H1 st) (hb : b ≤ st0.sz) (re : RepE K m1 H1 (wipeE env0 own) (wipe σ0 own)) (h0 : H0 D = none) (hD : H1 D = some (.lst accV)) (hn : ∀ n, m1 n ≠ some D) (ra : RepL K m1 H1 accD accV) (hl : accD.length < LIM) (rd : Rep K m1 H1 d xv) (his : ∀ i ∈ is, i ∈ own)
    {Nx : Hp → Prop} {rest : Sto → Rs (List DL.D)}
    (hN : ∀ m2 H2 st2 aD aV, To w K m0 H0 b st0 m2 H2 st2 → RepE K m2 H2 (wipeE env0 own) (wipe σ0 own) → H2 D = some (.lst aV) → (∀ n, m2 n ≠ some D) → RepL K m2 H2 aD aV → aD.length ≤ accD.length + 1 → PostE g m0 H0 b st0 σ0 Q (lcEnd aD (rest st2)) → Nx H2)
    (h : PostE g m0 H0 b st0 σ0 Q (lcEnd accD (match t d (wipeE env0 own) with
    | none => .no
    | some e => match tt st.sz e st with
      | .ok false s => rest (s.pop st.sz)
      | .ok true s => match te st.sz e (s.pop st.sz) with
        | .ok y s2 => match gc st.sz y s2 with
          | (y', s3) => match rest s3 with
            | .ok ys s4 => .ok (y' :: ys) s4
            | _ => .no
        | _ => .no
      | _ => .no))) :
    tG K t is xv (wipe σ0 own) H1 fun σ2 H2 => wipe σ2 own = wipe σ0 own ∧ tT ⟨w, K, cl, W0⟩ tt σ2 H2 fun k H3 =>
      if k = true then tE ⟨w, K, cl, W0⟩ te σ2 H3 fun y H4 => ∃ acc, H4 D = some (.lst acc) ∧ acc.length < sizeLine ∧ Nx (upd H4 D (.lst (acc ++ [y]))) else Nx H3 := by
  subst hg
  cases e2 : t d (wipeE env0 own) with
  | none =>
    rw [e2] at h
    exact h.elim
  | some e' =>
    rw [e2] at h
    dsimp only at h
    refine ⟨m1, d, _, e', rd, re, e2, fun σ2 re2 hw => ⟨(hw own his).trans (wipe_twice own own fun _ z => z), ?_⟩⟩
    refine ⟨m1, st.sz, st, e', ⟨p1.rep, re2, Nat.le_refl _⟩, ?_⟩
    cases e3 : tt st.sz e' st with
    | er x s => rw [e3] at h; exact h.elim
    | no => rw [e3] at h; exact h.elim
    | ok k s =>
      rw [e3] at h
      intro k' H2 m2' x2' ek
      subst ek
      have hbs : b ≤ st.sz := Nat.le_trans hb p1.old.le
      have x2 : To w K m1 H1 b st (m2'.cut st.sz) H2 (s.pop st.sz) := x2'.pop p1.rep hbs
      generalize (m2'.cut st.sz) = m2 at x2
      obtain ⟨hD2, hn2⟩ := x2.ext.untold hD hn
      have p2 := p1.trans x2
      have re3 := re.mono x2.ext
      have ra2 := ra.mono x2.ext
      cases k with
      | false => exact iteF (hN m2 H2 _ accD accV p2 re3 hD2 hn2 ra2 (Nat.le_succ _) h)
      | true =>
        refine iteT ?_
        dsimp only at h
        refine ⟨m2, st.sz, _, e', ⟨p2.rep, re2.mono x2.ext, Nat.le_refl _⟩, ?_⟩
        cases e4 : te st.sz e' (s.pop st.sz) with
        | er x s => rw [e4] at h; exact h.elim
        | no => rw [e4] at h; exact h.elim
        | ok y s2 =>
          rw [e4] at h
          dsimp only at h
          intro yv H3 m3' x3' ry'
          obtain ⟨m3, x3, ry⟩ := gc_ok p2.rep x3' (show b ≤ (s.pop st.sz).sz from hbs) ry'
          have ez : (s.pop st.sz).sz = st.sz := rfl
          rw [ez] at x3 ry
          obtain ⟨hD3, hn3⟩ := x3.ext.untold hD2 hn2
          have p3 := p2.trans x3
          have ra3 := ra2.mono x3.ext
          refine ⟨accV, hD3, by rw [← ra.length]; exact lim_lt (Nat.le_of_lt hl), ?_⟩
          have tk := tups_keep (u := HO.lst (accV ++ [yv])) hD3
          refine hN m3 _ (gc st.sz y s2).2 (accD ++ [(gc st.sz y s2).1]) (accV ++ [yv]) (p3.side h0 hD3 hn3) ((re3.mono x3.ext).mono0 (fun _ _ z => z) tk) upd_same hn3 ((ra3.append (.cons ry .nil)).mono0 (fun _ _ z => z) tk) (by rw [List.length_append]; exact Nat.le_refl _) ?_
          cases e5 : rest (gc st.sz y s2).2 with
          | ok ys s4 =>
            rw [e5] at h
            dsimp only [lcEnd] at h ⊢
            rwa [List.append_assoc]
          | er x s => rw [e5] at h; exact h.elim
          | no => rw [e5] at h; exact h.elim
theorem lc_of {w : Wx} {t : Tg} {is own : List Nat} {tt : Te} {te : Ex} (his : ∀ i ∈ is, i ∈ own) {σ : SV} {H : Hp} {Q : VK} (h : tE (gX X cl W) (cLc w t tt te own) σ H Q) :
    tLc (tI (gX X cl W) w) (tG X.K t is) (tT (gX X cl W0) tt) (tE (gX X cl W0) te) own σ H Q := by
  obtain ⟨m, b, st, env, p, h⟩ := h
  refine ⟨m, b, st, env, p, ?_⟩
  unfold cLc at h
  cases e1 : w b env st with
  | er x s => rw [e1] at h; exact h
  | no => rw [e1] at h; exact h
  | ok wk s =>
    rw [e1] at h
    intro J H1 m1 good x1 hgd ok
    have h : PostE (gX X cl W) m1 H1 b s σ Q (lcEnd [] (lcW t tt te (wipeE env own) wk s)) := by
      have h := PostA.shift h x1
      dsimp only [Rs.bind] at h
      cases e2 : lcW t tt te (wipeE env own) wk s with
      | ok ys s4 => rw [e2] at h; exact h
      | er x s => rw [e2] at h; exact h
      | no => rw [e2] at h; exact h
    have p1 := p.to x1
    intro D hD0
    have hmD : ∀ n, m1 n ≠ some D := fun n z => by
      obtain ⟨_, u, e, _⟩ := p1.rep.dom n D z
      rw [hD0] at e
      cases e
    have re0 := wipe_rep p1.env own
    have st0 : To X.w X.K m1 H1 b s m1 (upd H1 D (.lst [])) s := To.any p1.rep hD0
    have end' : ∀ {m2 H2 st2 aD aV}, To X.w X.K m1 H1 b s m2 H2 st2 → H2 D = some (.lst aV) → (∀ n, m2 n ≠ some D) → RepL X.K m2 H2 aD aV → PostE (gX X cl W) m1 H1 b s σ Q (lcEnd aD (.ok [] st2)) → Q (.ref D) H2 := fun {m2 H2 st2 aD aV} x hD hn ra h => by
      dsimp only [lcEnd] at h
      rw [List.append_nil] at h
      exact h _ _ _ (x.adopt p1.le hD0 hD hn ra) (.ref Mp.add_self)
    cases wk with
    | sn ds =>
      unfold lcW at h
      dsimp only at h
      split at h
      · rename_i hlen
        rw [Nat.ble_eq] at hlen
        have hlen : ds.length ≤ 100000 := hlen
        refine ⟨fun i k H2 => k = ds.length - i ∧ i ≤ ds.length ∧ ∃ m2 st2 aD aV, To X.w X.K m1 H1 b s m2 H2 st2 ∧ good m2 H2 ∧ RepE X.K m2 H2 (wipeE env own) (wipe σ own) ∧ H2 D = some (.lst aV) ∧ (∀ n, m2 n ≠ some D) ∧ RepL X.K m2 H2 aD aV ∧ aD.length ≤ i ∧ PostE (gX X cl W) m1 H1 b s σ Q (lcEnd aD (lcS t tt te (wipeE env own) (ds.drop i) st2)),
          ⟨_, rfl, Nat.zero_le _, m1, s, [], [], st0, ok.stab _ _ _ _ st0.ext hgd, re0.mono st0.ext, upd_same, hmD, .nil, Nat.le_refl _, by simpa using h⟩, ?_⟩
        rintro i k H2 ⟨rfl, hi, m2, st2, aD, aV, x2, hgd2, re2, hD2, hn2, ra2, hl2, h2⟩
        by_cases hi' : i < ds.length
        · have e0 : (Wk.sn ds).it i st2 = some (some ds[i]) := by
            show some ds[i]? = _
            rw [List.getElem?_eq_getElem hi']
          have e3 : ds.drop i = ds[i] :: ds.drop (i + 1) := List.drop_eq_getElem_cons hi'
          rw [e3] at h2
          unfold lcS at h2
          refine .inr ⟨ok.go m2 H2 st2 i _ hgd2 x2.rep e0, fun H' => ∃ m2 st2 aD aV, To X.w X.K m1 H1 b s m2 H' st2 ∧ good m2 H' ∧ RepE X.K m2 H' (wipeE env own) (wipe σ own) ∧ H' D = some (.lst aV) ∧ (∀ n, m2 n ≠ some D) ∧ RepL X.K m2 H' aD aV ∧ aD.length ≤ i + 1 ∧ PostE (gX X cl W) m1 H1 b s σ Q (lcEnd aD (lcS t tt te (wipeE env own) (ds.drop (i + 1)) st2)), fun H' q => ⟨ds.length - (i + 1), by omega, rfl, hi', q⟩, fun x H' y => ?_⟩
          obtain ⟨t1, r1⟩ := ok.yld m2 H2 st2 b i _ x H' hgd2 x2.rep e0 y
          obtain ⟨hD3, hn3⟩ := t1.ext.untold hD2 hn2
          have hgd3 := ok.stab _ _ _ _ t1.ext hgd2
          refine lc_turn (g := gX X cl W) rfl (x2.trans t1) p1.le (re2.mono t1.ext) hD0 hD3 hn3 (ra2.mono t1.ext) (by unfold LIM; omega) r1 his (rest := lcS t tt te (wipeE env own) (ds.drop (i + 1))) (fun m3 H3 st3 aD3 aV3 x3 re3 hD4 hn4 ra4 hl4 h4 => ?_) h2
          exact ⟨m3, st3, aD3, aV3, x3, ok.stab _ _ _ _ x3.ext hgd, re3, hD4, hn4, ra4, by omega, h4⟩
        · have e0 : (Wk.sn ds).it i st2 = some none := by
            show some ds[i]? = _
            rw [List.getElem?_eq_none (by omega)]
          rw [List.drop_eq_nil_of_le (by omega)] at h2
          exact .inl ⟨ok.stop m2 H2 st2 i hgd2 x2.rep e0, end' x2 hD2 hn2 ra2 h2⟩
      · exact h.elim
    | lv it =>
      have h : PostE (gX X cl W) m1 H1 b s σ Q (lcEnd [] (lcL it t tt te (wipeE env own) FUEL 0 s)) := h
      refine ⟨fun i k H2 => k + i ≤ 100000 ∧ ∃ m2 st2 aD aV, To X.w X.K m1 H1 b s m2 H2 st2 ∧ good m2 H2 ∧ RepE X.K m2 H2 (wipeE env own) (wipe σ own) ∧ H2 D = some (.lst aV) ∧ (∀ n, m2 n ≠ some D) ∧ RepL X.K m2 H2 aD aV ∧ aD.length ≤ i ∧ PostE (gX X cl W) m1 H1 b s σ Q (lcEnd aD (lcL it t tt te (wipeE env own) k i st2)),
        ⟨FUEL, Nat.le_refl _, m1, s, [], [], st0, ok.stab _ _ _ _ st0.ext hgd, re0.mono st0.ext, upd_same, hmD, .nil, Nat.le_refl _, h⟩, ?_⟩
      rintro i k H2 ⟨hki, m2, st2, aD, aV, x2, hgd2, re2, hD2, hn2, ra2, hl2, h2⟩
      cases k with
      | zero => exact h2.elim
      | succ k =>
        unfold lcL at h2
        cases e0 : it i st2 with
        | none => rw [e0] at h2; exact h2.elim
        | some o =>
          rw [e0] at h2
          cases o with
          | none => exact .inl ⟨ok.stop m2 H2 st2 i hgd2 x2.rep e0, end' x2 hD2 hn2 ra2 h2⟩
          | some d =>
            refine .inr ⟨ok.go m2 H2 st2 i _ hgd2 x2.rep e0, fun H' => ∃ m2 st2 aD aV, To X.w X.K m1 H1 b s m2 H' st2 ∧ good m2 H' ∧ RepE X.K m2 H' (wipeE env own) (wipe σ own) ∧ H' D = some (.lst aV) ∧ (∀ n, m2 n ≠ some D) ∧ RepL X.K m2 H' aD aV ∧ aD.length ≤ i + 1 ∧ PostE (gX X cl W) m1 H1 b s σ Q (lcEnd aD (lcL it t tt te (wipeE env own) k (i + 1) st2)), fun H' q => ⟨k, Nat.lt_succ_self _, by omega, q⟩, fun x H' y => ?_⟩
            obtain ⟨t1, r1⟩ := ok.yld m2 H2 st2 b i _ x H' hgd2 x2.rep e0 y
            obtain ⟨hD3, hn3⟩ := t1.ext.untold hD2 hn2
            refine lc_turn (g := gX X cl W) rfl (x2.trans t1) p1.le (re2.mono t1.ext) hD0 hD3 hn3 (ra2.mono t1.ext) (by unfold LIM; omega) r1 his (rest := lcL it t tt te (wipeE env own) k (i + 1)) (fun m3 H3 st3 aD3 aV3 x3 re3 hD4 hn4 ra4 hl4 h4 => ?_) h2
            exact ⟨m3, st3, aD3, aV3, x3, ok.stab _ _ _ _ x3.ext hgd, re3, hD4, hn4, ra4, by omega, h4⟩
abbrev Blk (X : Cx) (s : Shared) (H : Hp) (scope : Scope) (C : Addr) (cl : List (Str × Addr)) (fp : List Addr) : Cx := X.blk s H scope (compEnvC scope cl C X.env) fp
/-- [e for t in iter if ..] -/
theorem pd_lc {elt tg iter : Expr} {ifs : List Expr} {scope : Scope} {own : List (Str × Nat)} {pos : Pos} {w : Wx} {t : Tg} {is : List Nat} {tt : Te} {te : Ex} (hc : X.calm = true) (hN : X.N.Nodup) (hi : PDI X cl W tg iter w) (ok : BlkOk X.N X.env.scope scope own) (his : ∀ i ∈ is, i ∈ own.map (·.2))
    (hg : ∀ (s : Shared) (H : Hp) (C : Addr) (cs : List (Str × Addr)) (fp : List Addr), PG (Blk X s H scope C cs fp) tg (tG X.K t is)) (ht : ∀ (s : Shared) (H : Hp) (C : Addr) (cs : List (Str × Addr)) (fp : List Addr), PTs (Blk X s H scope C cs fp) ifs (tT (gX X cl W0) tt))
    (he : ∀ (s : Shared) (H : Hp) (C : Addr) (cs : List (Str × Addr)) (fp : List Addr), PE (Blk X s H scope C cs fp) elt (tE (gX X cl W0) te)) (hs : ∀ x, foldedSetIterable iter X.env x = pure x := by intro _; rfl) :
    PD X cl W (.ListComp elt [⟨tg, iter, ifs, 0⟩] scope pos) (cLc w t tt te (own.map (·.2))) := (pe_lc hc hN hi ok hg ht he hs).imp fun σ H Q h => lc_of his h
theorem pds_setLc {i : Nat} {y : Str} {py : Pos} {elt tg iter : Expr} {ifs : List Expr} {scope : Scope} {own : List (Str × Nat)} {pos spos : Pos} {w : Wx} {t : Tg} {is : List Nat} {tt : Te} {te : Ex} (hc : X.calm = true) (hN : X.N.Nodup) (hy : X.N[i]? = some y) (hyl : X.env.scope.names.lookup y = some .local)
    (hsw : swapsWith (.ListComp elt [⟨tg, iter, ifs, 0⟩] scope pos) (some (.Name y py)) spos.line X.env = pure true) (hi : PDI X cl W tg iter w) (ok : BlkOk X.N X.env.scope scope own) (his : ∀ i ∈ is, i ∈ own.map (·.2))
    (hg : ∀ (s : Shared) (H : Hp) (C : Addr) (cs : List (Str × Addr)) (fp : List Addr), PG (Blk X s H scope C cs fp) tg (tG X.K t is)) (ht : ∀ (s : Shared) (H : Hp) (C : Addr) (cs : List (Str × Addr)) (fp : List Addr), PTs (Blk X s H scope C cs fp) ifs (tT (gX X cl W0) tt))
    (he : ∀ (s : Shared) (H : Hp) (C : Addr) (cs : List (Str × Addr)) (fp : List Addr), PE (Blk X s H scope C cs fp) elt (tE (gX X cl W0) te)) (hs : ∀ x, foldedSetIterable iter X.env x = pure x := by intro _; rfl) :
    PDS X cl W (.Assign [.Name y py] (.ListComp elt [⟨tg, iter, ifs, 0⟩] scope pos) spos) (sAsg (gN i) (cLc w t tt te (own.map (·.2)))) :=
  pds_set (pd_lc hc hN hi ok his hg ht he hs) ((ps_setLc hc hN hy hyl hsw hi ok hg ht he hs).imp fun Dn σ H h => lc_of his h)
theorem pdts_nil {X' : Cx} {g : G} : PTs X' [] (tT g tYesT) := pts_nil.imp' fun σ H Q ⟨m, b, st, env, p, h⟩ => h true H m (.refl p.rep) rfl
theorem pdts_one {X' : Cx} {g : G} {c : Expr} {tt : Te} (h : PT X' c (tT g tt)) : PTs X' [c] (tT g tt) := pts_one h
end
end DL
end S_DLh
section S_DLk
set_option Elab.async false
set_option linter.all false
set_option maxRecDepth 100000
set_option autoImplicit false
namespace DL
open PySem PySem.Spec PyProof.Rows L2

/-! ### keys that are tuples of ints, texts, and of such tuples -/
mutual
def D.beq : D → D → Bool
  | .non, .non => true
  | .bl a, .bl b => a == b
  | .int i, .int j => i == j
  | .str x, .str y => x == y
  | .tup xs, .tup ys => D.beqs xs ys
  | .ref n, .ref k => Nat.beq n k
  | _, _ => false
def D.beqs : List D → List D → Bool
  | [], [] => true
  | x :: xs, y :: ys => D.beq x y && D.beqs xs ys
  | _, _ => false
end
mutual
theorem beq_iff : ∀ d e : D, D.beq d e = true ↔ d = e
  | .non, e => by cases e <;> simp [D.beq]
  | .bl a, e => by cases e <;> simp [D.beq]
  | .int i, e => by cases e <;> simp [D.beq]
  | .str x, e => by cases e <;> simp [D.beq]
  | .ref n, e => by cases e <;> simp [D.beq]
  | .tup xs, e => by
    cases e with
    | tup ys =>
      show D.beqs xs ys = true ↔ _
      rw [beqs_iff xs ys]
      constructor
      · intro h; rw [h]
      · intro h; injection h
    | _ => simp [D.beq]
theorem beqs_iff : ∀ ds es : List D, D.beqs ds es = true ↔ ds = es
  | [], [] => by simp [D.beqs]
  | [], _ :: _ => by simp [D.beqs]
  | _ :: _, [] => by simp [D.beqs]
  | d :: ds, e :: es => by
    show (D.beq d e && D.beqs ds es) = true ↔ _
    rw [Bool.and_eq_true, beq_iff d e, beqs_iff ds es, List.cons.injEq]
end
instance : DecidableEq D := fun d e => decidable_of_iff _ (beq_iff d e)
theorem beqs_dec (ds es : List D) : D.beqs ds es = decide (ds = es) := by
  by_cases h : ds = es
  · rw [decide_eq_true h]
    exact (beqs_iff ds es).mpr h
  · rw [decide_eq_false h]
    cases q : D.beqs ds es with
    | false => rfl
    | true => exact absurd ((beqs_iff ds es).mp q) h
mutual
def gdr : D → Nat
  | .tup ds => gdrs ds + 1
  | _ => 1
def gdrs : List D → Nat
  | [] => 0
  | d :: r => gdr d + gdrs r
end
mutual
inductive GK (h : Heap) : D → Value → Prop
  | int (i : Int) (t : Tok) : GK h (.int i) (.int i t)
  | str (x : Str) (t : Tok) : GK h (.str x) (.str x t)
  | tup {a : Addr} {o : Obj} {vs : Array Value} {n : Nat} {ds : List D} : h.get? a = some o → o.cls = .type "tuple" → o.data = .seq vs n → GKs h ds vs.toList → GK h (.tup ds) (.ref a)
inductive GKs (h : Heap) : List D → List Value → Prop
  | nil : GKs h [] []
  | cons {d : D} {v : Value} {ds : List D} {vs : List Value} : GK h d v → GKs h ds vs → GKs h (d :: ds) (v :: vs)
end
section
variable {h h' : Heap}
mutual
theorem GK.inj : ∀ {d e : D} {v : Value}, GK h d v → GK h e v → d = e
  | .int i, _, _, .int _ t, q => by cases q; rfl
  | .str x, _, _, .str _ t, q => by cases q; rfl
  | .tup ds, _, _, .tup ho hc hd hs, q => by
    cases q with
    | tup ho' hc' hd' hs' =>
      obtain rfl := Option.some.inj (ho.symm.trans ho')
      rw [hd] at hd'
      injection hd' with h1 _
      subst h1
      rw [GKs.inj hs hs']
theorem GKs.inj : ∀ {ds es : List D} {vs : List Value}, GKs h ds vs → GKs h es vs → ds = es
  | [], _, _, .nil, q => by cases q; rfl
  | d :: ds, _, _, .cons a b, q => by
    cases q with
    | cons a' b' => rw [GK.inj a a', GKs.inj b b']
end
mutual
theorem GK.keeps {a0 : Addr} {o0 : Obj} {es : Array DictEntry} {ep : Nat} (ho : h.get? a0 = some o0) (hd : o0.data = .dict es ep) (hs : Heap.SameBut a0 h h') : ∀ {d : D} {v : Value}, GK h d v → GK h' d v
  | _, _, .int i t => .int i t
  | _, _, .str x t => .str x t
  | _, _, .tup (a := a) ho' hc hd' r => .tup (a := a) ((hs.2 a (fun z => by
      subst z
      obtain rfl := Option.some.inj (ho'.symm.trans ho)
      rw [hd] at hd'
      cases hd')).trans ho') hc hd' (GKs.keeps ho hd hs r)
theorem GKs.keeps {a0 : Addr} {o0 : Obj} {es : Array DictEntry} {ep : Nat} (ho : h.get? a0 = some o0) (hd : o0.data = .dict es ep) (hs : Heap.SameBut a0 h h') : ∀ {ds : List D} {vs : List Value}, GKs h ds vs → GKs h' ds vs
  | _, _, .nil => .nil
  | _, _, .cons a b => .cons (GK.keeps ho hd hs a) (GKs.keeps ho hd hs b)
end
mutual
theorem GK.reads : ∀ {d : D} {v : Value}, GK h d v → ∃ as, Reads h v (D.toP d) as
  | _, _, .int i t => ⟨_, .int i t⟩
  | _, _, .str x t => ⟨_, .str x t⟩
  | _, _, .tup ho hc hd r => by
    obtain ⟨as, q⟩ := GKs.reads r
    exact ⟨_, .tuple ho hc hd q⟩
theorem GKs.reads : ∀ {ds : List D} {vs : List Value}, GKs h ds vs → ∃ as, ReadsAll h vs (D.toPs ds) as
  | _, _, .nil => ⟨_, .nil⟩
  | _, _, .cons a b => by
    obtain ⟨as, q⟩ := GK.reads a
    obtain ⟨bs, r⟩ := GKs.reads b
    exact ⟨_, .cons q r⟩
end
end
mutual
theorem gk_gnd : ∀ (n : Nat) (d : D), D.gk n d = true → D.gnd n d = true
  | _, .int _, _ => by cases ‹Nat› <;> rfl
  | _, .str x, h => by
    unfold D.gk at h
    unfold D.gnd
    exact h
  | n + 1, .tup ds, h => by
    unfold D.gk at h
    unfold D.gnd
    exact gks_gnd n ds h
  | 0, .tup ds, h => by unfold D.gk at h; cases h
  | _, .non, h => by unfold D.gk at h; cases h
  | _, .bl _, h => by unfold D.gk at h; cases h
  | _, .ref _, h => by unfold D.gk at h; cases h
theorem gks_gnd : ∀ (n : Nat) (ds : List D), D.gks n ds = true → D.gnds n ds = true
  | _, [], _ => rfl
  | n, d :: r, h => by
    unfold D.gks at h
    unfold D.gnds
    rw [Bool.and_eq_true] at h ⊢
    exact ⟨gk_gnd n d h.1, gks_gnd n r h.2⟩
end
mutual
theorem gk_eqv : ∀ (n : Nat) (d e : D), D.gk n d = true → D.gk n e = true → (D.eqv d e = true ↔ d = e)
  | _, .int i, e, _, q => by cases e <;> first | (unfold D.gk at q; cases q; done) | simp [D.eqv]
  | _, .str x, e, _, q => by cases e <;> first | (unfold D.gk at q; cases q; done) | simp [D.eqv]
  | n + 1, .tup ds, e, h, q => by
    cases e with
    | tup es =>
      unfold D.gk at h q
      show D.eqvs ds es = true ↔ _
      rw [gks_eqv n ds es h q]
      constructor
      · intro z; rw [z]
      · intro z; injection z
    | int i => simp [D.eqv]
    | str x => simp [D.eqv]
    | _ => unfold D.gk at q; cases q
  | 0, .tup ds, _, h, _ => by unfold D.gk at h; cases h
  | _, .non, _, h, _ => by unfold D.gk at h; cases h
  | _, .bl _, _, h, _ => by unfold D.gk at h; cases h
  | _, .ref _, _, h, _ => by unfold D.gk at h; cases h
theorem gks_eqv : ∀ (n : Nat) (ds es : List D), D.gks n ds = true → D.gks n es = true → (D.eqvs ds es = true ↔ ds = es)
  | _, [], [], _, _ => by simp [D.eqvs]
  | _, [], _ :: _, _, _ => by simp [D.eqvs]
  | _, _ :: _, [], _, _ => by simp [D.eqvs]
  | n, d :: ds, e :: es, h, q => by
    unfold D.gks at h q
    rw [Bool.and_eq_true] at h q
    show (D.eqv d e && D.eqvs ds es) = true ↔ _
    rw [Bool.and_eq_true, gk_eqv n d e h.1 q.1, gks_eqv n ds es h.2 q.2, List.cons.injEq]
end
section
variable {prog : Program} {w : World} {A : Around} {E : Value → Shared → Prop} {s : Shared}
theorem GK.len {h : Heap} : ∀ {ds : List D} {vs : List Value}, GKs h ds vs → ds.length = vs.length
  | _, _, .nil => rfl
  | _, _, .cons _ b => by rw [List.length_cons, List.length_cons, GK.len b]
def HashOk (prog : Program) (w : World) (E : Value → Shared → Prop) (n : Nat) : Prop := ∀ (d : D) (v : Value) (A : Around) (s : Shared) (Q : Int → Shared → Prop), GK s.heap d v → D.gk n d = true → A.units + n < cLine → Q (ghash w d) { s with toks := s.toks + gdr d } → wpAny (model prog w) A (pyHash v) Q E s
theorem gks_hash {n : Nat} (ih : HashOk prog w E n) : ∀ (ds : List D) (vs : List Value) (A : Around) (s : Shared) (acc : Array Int) (Q : Array Int → Shared → Prop), GKs s.heap ds vs → D.gks n ds = true → A.units + n < cLine →
    Q (⟨acc.toList ++ ghashs w ds⟩) { s with toks := s.toks + gdrs ds } → wpAny (model prog w) A (forIn vs acc fun x r => do let h ← pyHash x; pure (ForInStep.yield (r.push h))) Q E s := by
  intro ds
  induction ds with
  | nil =>
    intro vs A s acc Q a _ _ h
    cases a
    have e : (⟨acc.toList ++ ghashs w []⟩ : Array Int) = acc := by
      show (⟨acc.toList ++ []⟩ : Array Int) = acc
      rw [List.append_nil]
    rw [e] at h
    exact wpAny_pure h
  | cons d ds ihs =>
    intro vs A s acc Q a hk hu h
    cases a with
    | cons a b =>
      unfold D.gks at hk
      rw [Bool.and_eq_true] at hk
      rw [List.forIn_cons]
      refine wpAny_bind (wpAny_bind (ih d _ A s _ a hk.1 hu (wpAny_pure ?_)))
      refine ihs _ A { s with toks := s.toks + gdr d } (acc.push (ghash w d)) Q b hk.2 hu ?_
      have e : (⟨(acc.push (ghash w d)).toList ++ ghashs w ds⟩ : Array Int) = ⟨acc.toList ++ ghashs w (d :: ds)⟩ := by
        rw [Array.toList_push, List.append_assoc]
        rfl
      rw [e]
      have e2 : s.toks + gdr d + gdrs ds = s.toks + gdrs (d :: ds) := by
        show _ = s.toks + (gdr d + gdrs ds)
        omega
      show Q _ { s with toks := s.toks + gdr d + gdrs ds }
      rw [e2]
      exact h
theorem gk_hash0 : HashOk prog w E 0 := by
  intro d v A s Q a hk hu h
  cases a with
  | int i t => exact wpAny_pyHash_int h
  | str x t => exact wpAny_pyHash_str h
  | tup ho hc hd hi => unfold D.gk at hk; cases hk
theorem gk_hash : ∀ n, HashOk prog w E n := by
  intro n
  induction n with
  | zero => exact gk_hash0
  | succ n ih =>
    intro d v A s Q a hk hu h
    cases a with
    | int i t => exact wpAny_pyHash_int h
    | str x t => exact wpAny_pyHash_str h
    | tup ho hc hd hi =>
      rename_i a o items n' ds
      unfold D.gk at hk
      have hT : s.TypeIs (.ref a) "tuple" := ⟨o, ho, hc⟩
      unfold pyHash
      first | unfold pyHashByItsType | skip
      first | refine wpAny_bind (wpAny_cRoomFor_or (.inr (by omega)) ?_) | skip
      refine wpAny_bind (wpAny_specialOf hT PySem.F.slot_tuple_hash.lookup ?_)
      show wpAny _ _ (if (some (Value.builtin "tuple.__hash__") == some Value.none) = true then _ else _) Q E s
      rw [if_neg (by rw [beq_builtin_none]; exact Bool.false_ne_true)]
      refine wpAny_bind (wpAny_specialOf hT PySem.F.slot_tuple_hash.lookup ?_)
      show wpAny _ _ (callSpecialIfBoundUnlessNone? (.ref a) "__hash__" _ >>= _) Q E s
      refine wpAny_bind (wpAny_callSpecialIfBoundUnlessNone?_slot hT PySem.F.slot_tuple_hash (wpAny_call_entry PySem.F.slot_tuple_hash hT PySem.F.entry_tuple_hash ?_ (PySem.F.args_tuple_hash_1 _)))
      show wpAny _ _ (Builtin.Tuple.tupleItemsOf (.ref a) >>= _) _ _ s
      refine wpAny_bind (wpAny_tupleItemsOf ho hd ?_)
      refine wpAny_bind ?_
      rw [← Array.forIn_toList]
      refine gks_hash ih ds items.toList A.in1 s #[] _ hi hk (show A.in1.units + n < cLine by rw [units_in1]; omega) ?_
      show wpAny _ _ (retInt (Builtin.Tuple.tupleHashOf ((#[] : Array Int).toList ++ ghashs w ds))) _ _ _
      rw [List.nil_append]
      refine wpAny_ret_mkInt ?_
      have eg : ghash w (.tup ds) = reduceHash (Builtin.Tuple.tupleHashOf (ghashs w ds)) := rfl
      rw [eg] at h
      show wpAny _ _ (if (decide (-(2 : Int) ^ 63 ≤ Builtin.Tuple.tupleHashOf (ghashs w ds)) && decide (Builtin.Tuple.tupleHashOf (ghashs w ds) < 2 ^ 63)) = true then _ else _) Q E _
      unfold reduceHash at h
      have et : s.toks + gdrs ds + 1 = s.toks + gdr (.tup ds) := by
        show s.toks + gdrs ds + 1 = s.toks + (gdrs ds + 1)
        omega
      rw [← et] at h
      by_cases hr : (decide (-(2 : Int) ^ 63 ≤ Builtin.Tuple.tupleHashOf (ghashs w ds)) && decide (Builtin.Tuple.tupleHashOf (ghashs w ds) < 2 ^ 63)) = true
      · rw [if_pos hr]
        rw [if_pos hr] at h
        exact wpAny_pure h
      · rw [if_neg hr]
        rw [if_neg hr] at h
        exact wpAny_bind (wpAny_rule (wpAny_pure h))
theorem eqIsQuiet_flat (n : Nat) {v : Value} (h : carriedByValue v = true) : eqIsQuiet n v = pure true := PySem.eqIsQuiet_byValue n h
def QuietOk (prog : Program) (w : World) (E : Value → Shared → Prop) (n : Nat) : Prop := ∀ (d : D) (v : Value) (A : Around) (s : Shared) (Q : Bool → Shared → Prop), GK s.heap d v → D.gk n d = true → Q true s → wpAny (model prog w) A (eqIsQuiet n v) Q E s
theorem gk_quiet : ∀ n, QuietOk prog w E n := by
  intro n
  induction n with
  | zero =>
    intro d v A s Q a hk h
    cases a with
    | int i t => rw [eqIsQuiet_flat 0 rfl]; exact wpAny_pure h
    | str x t => rw [eqIsQuiet_flat 0 rfl]; exact wpAny_pure h
    | tup ho hc hd hi => unfold D.gk at hk; cases hk
  | succ n ih =>
    intro d v A s Q a hk h
    cases a with
    | int i t => rw [eqIsQuiet_flat _ rfl]; exact wpAny_pure h
    | str x t => rw [eqIsQuiet_flat _ rfl]; exact wpAny_pure h
    | tup ho hc hd hi =>
      rename_i a o items n' ds
      unfold D.gk at hk
      have hT : s.TypeIs (.ref a) "tuple" := ⟨o, ho, hc⟩
      unfold eqIsQuiet
      refine wpAny_bind (wpAny_specialOf hT PySem.F.slot_tuple_eq.lookup ?_)
      show wpAny _ _ (isInstance (.ref a) (.type "tuple") >>= _) _ _ s
      refine wpAny_bind (wpAny_isInstance hT PySem.isSubtype_tuple_tuple ?_)
      simp only [Bool.not_true, Bool.false_eq_true, if_false]
      refine wpAny_bind (wpAny_seqItems ho hd ?_)
      refine wpAny_bind ?_
      show wpAny _ _ (forIn items _ _) _ _ s
      rw [← Array.forIn_toList]
      refine wpAny_forIn_list _ (fun rest r s' => r.1 = none ∧ s' = s ∧ ∃ es, GKs s.heap es rest ∧ D.gks n es = true) _ ?_ ?_ _ _ ⟨rfl, rfl, ds, hi, hk⟩
      · rintro v rest r s' ⟨hr, rfl, es, hes, hg⟩
        cases hes with
        | cons a b =>
          unfold D.gks at hg
          rw [Bool.and_eq_true] at hg
          refine wpAny_bind (ih _ v A s' _ a hg.1 ?_)
          simp only [Bool.not_true, Bool.false_eq_true, if_false]
          exact wpAny_pure ⟨rfl, rfl, _, b, hg.2⟩
      · rintro ⟨r1, r2⟩ s' ⟨hr, rfl, _⟩
        simp only at hr
        subst hr
        exact wpAny_pure h
end
def gIs (h : Heap) (ks : List D) (a : Addr) : Prop := GK h (.tup ks) (.ref a) ∧ D.gk 8 (.tup ks) = true
/-- tuples of ints, texts and such tuples, as keys -/
def gKind (prog : Program) (w : World) : PySem.HeapKind prog w (List D) where
  is := gIs
  hash := fun ks => ghash w (.tup ks)
  draws := fun ks => gdr (.tup ks)
  room := fun A => A.units + 64 < cLine
  inj := fun hx hy => by
    have := hx.1.inj hy.1
    injection this
  keeps := fun x ho hd hs => ⟨x.1.keeps ho hd hs, x.2⟩
  pyHash := fun hu hk h => gk_hash 8 _ _ _ _ _ hk.1 hk.2 (by omega) h
  eqBool := fun {A E s x y a b Q} hu hx hy h => by
    obtain ⟨as, r1⟩ := hx.1.reads
    obtain ⟨bs, r2⟩ := hy.1.reads
    obtain ⟨c1, d1⟩ := gnd_shape 8 _ (gk_gnd 8 _ hx.2)
    obtain ⟨c2, d2⟩ := gnd_shape 8 _ (gk_gnd 8 _ hy.2)
    refine SeqAt.eqBoolOverData prog w A E s _ _ _ _ as bs Q r1 r2 c1 c2 (by omega) ?_
    rw [eqv_toP 8 _ _ (gk_gnd 8 _ hx.2) (gk_gnd 8 _ hy.2)]
    have e : D.eqv (.tup x) (.tup y) = decide (x = y) := by
      have z := gk_eqv 8 _ _ hx.2 hy.2
      by_cases q : x = y
      · rw [decide_eq_true q]
        exact z.mpr (by rw [q])
      · rw [decide_eq_false q]
        cases p : D.eqv (.tup x) (.tup y) with
        | false => rfl
        | true =>
          have := z.mp p
          injection this with this
          exact absurd this q
    rw [e]
    exact h
  quiet := fun hk h => gk_quiet 8 _ _ _ _ _ hk.1 hk.2 h
end DL
end S_DLk
section S_DLs
set_option Elab.async false
set_option linter.all false
set_option maxRecDepth 100000
set_option autoImplicit false
namespace DL
open PySem PySem.Spec PyProof.Rows L2

/-! ### an order of all data -/
def D.rank : D → Nat
  | .non => 0
  | .bl _ => 1
  | .int _ => 2
  | .str _ => 3
  | .tup _ => 4
  | .ref _ => 5
mutual
def D.lt : D → D → Bool
  | .int i, .int j => decide (i < j)
  | .str x, .str y => decide (x.cps.toList < y.cps.toList)
  | .tup xs, .tup ys => D.lts xs ys
  | .bl a, .bl b => !a && b
  | .ref n, .ref k => Nat.blt n k
  | d, e => Nat.blt d.rank e.rank
def D.lts : List D → List D → Bool
  | [], [] => false
  | [], _ :: _ => true
  | _ :: _, [] => false
  | x :: xs, y :: ys => if D.beq x y = true then D.lts xs ys else D.lt x y
end
theorem lts_cons (x y : D) (xs ys : List D) : D.lts (x :: xs) (y :: ys) = if D.beq x y = true then D.lts xs ys else D.lt x y := rfl
theorem beq_self (d : D) : D.beq d d = true := (beq_iff d d).mpr rfl
theorem str_ext' {x y : Str} (h : x.cps.toList = y.cps.toList) : x = y := by
  cases x; cases y
  congr
  exact Array.toList_inj.mp h
mutual
theorem lt_irr : ∀ d : D, D.lt d d = false
  | .non => rfl
  | .bl a => by cases a <;> rfl
  | .int i => decide_eq_false (Int.lt_irrefl i)
  | .str x => decide_eq_false (fun h => List.lt_irrefl _ h)
  | .tup ds => lts_irr ds
  | .ref n => by
    show Nat.blt n n = false
    cases e : Nat.blt n n with
    | false => rfl
    | true => rw [Nat.blt_eq] at e; omega
theorem lts_irr : ∀ ds : List D, D.lts ds ds = false
  | [] => rfl
  | d :: ds => by
    rw [lts_cons, if_pos (beq_self d)]
    exact lts_irr ds
end
theorem blt_of {n k : Nat} (h : n < k) : Nat.blt n k = true := by rw [Nat.blt_eq]; exact h
theorem blt_no {n k : Nat} (h : ¬ n < k) : Nat.blt n k = false := by
  cases e : Nat.blt n k with
  | false => rfl
  | true => rw [Nat.blt_eq] at e; exact absurd e h
theorem lt_rank {d e : D} (h : D.lt d e = true) : d.rank ≤ e.rank := by
  cases d <;> cases e <;> first | (exact Nat.le_refl _) | (unfold D.lt at h; rw [Nat.blt_eq] at h; exact Nat.le_of_lt h)
theorem lt_of_rank {d e : D} (h : d.rank < e.rank) : D.lt d e = true := by
  cases d <;> cases e <;> first | (exact blt_of h) | (exact absurd h (Nat.lt_irrefl _))
mutual
theorem lt_tri : ∀ d e : D, D.lt d e = false → D.lt e d = false → d = e
  | .non, e, h1, h2 => by cases e <;> first | rfl | (cases h1; done) | (cases h2; done)
  | .bl a, e, h1, h2 => by
    cases e with
    | bl b => cases a <;> cases b <;> first | rfl | (cases h1; done) | (cases h2; done)
    | _ => first | (cases h1; done) | (cases h2; done)
  | .int i, e, h1, h2 => by
    cases e with
    | int j =>
      have a := of_decide_eq_false (p := i < j) h1
      have b := of_decide_eq_false (p := j < i) h2
      rw [show i = j by omega]
    | _ => first | (cases h1; done) | (cases h2; done)
  | .str x, e, h1, h2 => by
    cases e with
    | str y =>
      have a := of_decide_eq_false (p := x.cps.toList < y.cps.toList) h1
      have b := of_decide_eq_false (p := y.cps.toList < x.cps.toList) h2
      rw [str_ext' (List.le_antisymm (List.not_lt.mp b) (List.not_lt.mp a))]
    | _ => first | (cases h1; done) | (cases h2; done)
  | .ref n, e, h1, h2 => by
    cases e with
    | ref k =>
      by_cases q : n < k
      · rw [show D.lt (.ref n) (.ref k) = true from blt_of q] at h1
        cases h1
      · by_cases q2 : k < n
        · rw [show D.lt (.ref k) (.ref n) = true from blt_of q2] at h2
          cases h2
        · rw [show n = k by omega]
    | _ => first | (cases h1; done) | (cases h2; done)
  | .tup ds, e, h1, h2 => by
    cases e with
    | tup es => rw [lts_tri ds es h1 h2]
    | _ => first | (cases h1; done) | (cases h2; done)
theorem lts_tri : ∀ ds es : List D, D.lts ds es = false → D.lts es ds = false → ds = es
  | [], [], _, _ => rfl
  | [], _ :: _, h, _ => by cases h
  | _ :: _, [], _, h => by cases h
  | d :: ds, e :: es, h1, h2 => by
    rw [lts_cons] at h1 h2
    by_cases q : D.beq d e = true
    · have q' := (beq_iff d e).mp q
      subst q'
      rw [if_pos q] at h1 h2
      rw [lts_tri ds es h1 h2]
    · have q2 : ¬ D.beq e d = true := fun z => q ((beq_iff d e).mpr ((beq_iff e d).mp z).symm)
      rw [if_neg q] at h1
      rw [if_neg q2] at h2
      exact absurd ((beq_iff d e).mpr (lt_tri d e h1 h2)) q
end
mutual
theorem lt_trans' : ∀ d e f : D, D.lt d e = true → D.lt e f = true → D.lt d f = true
  | .int i, e, f, h1, h2 => by
    cases e with
    | int j =>
      cases f with
      | int k =>
        have a := of_decide_eq_true (p := i < j) h1
        have b := of_decide_eq_true (p := j < k) h2
        exact decide_eq_true (by omega)
      | _ => first | (cases h2; done) | rfl
    | _ => first | (cases h1; done) | (exact lt_of_rank (Nat.lt_of_lt_of_le (by simp [D.rank]) (lt_rank h2)))
  | .str x, e, f, h1, h2 => by
    cases e with
    | str y =>
      cases f with
      | str z =>
        have a := of_decide_eq_true (p := x.cps.toList < y.cps.toList) h1
        have b := of_decide_eq_true (p := y.cps.toList < z.cps.toList) h2
        exact decide_eq_true (List.lt_trans a b)
      | _ => first | (cases h2; done) | rfl
    | _ => first | (cases h1; done) | (exact lt_of_rank (Nat.lt_of_lt_of_le (by simp [D.rank]) (lt_rank h2)))
  | .bl a, e, f, h1, h2 => by
    cases e with
    | bl b =>
      cases f with
      | bl c => cases a <;> cases b <;> cases c <;> first | rfl | (cases h1; done) | (cases h2; done)
      | _ => first | (cases h2; done) | rfl
    | _ => first | (cases h1; done) | (exact lt_of_rank (Nat.lt_of_lt_of_le (by simp [D.rank]) (lt_rank h2)))
  | .non, e, f, h1, h2 => by
    cases e with
    | non => cases h1
    | _ => exact lt_of_rank (Nat.lt_of_lt_of_le (by simp [D.rank]) (lt_rank h2))
  | .ref n, e, f, h1, h2 => by
    cases e with
    | ref k =>
      cases f with
      | ref l =>
        have a : Nat.blt n k = true := h1
        have b : Nat.blt k l = true := h2
        rw [Nat.blt_eq] at a b
        exact blt_of (by omega)
      | _ => cases h2
    | _ => cases h1
  | .tup ds, e, f, h1, h2 => by
    cases e with
    | tup es =>
      cases f with
      | tup fs => exact lts_trans' ds es fs h1 h2
      | _ => first | (cases h2; done) | rfl
    | _ => first | (cases h1; done) | (exact lt_of_rank (Nat.lt_of_lt_of_le (by simp [D.rank]) (lt_rank h2)))
theorem lts_trans' : ∀ ds es fs : List D, D.lts ds es = true → D.lts es fs = true → D.lts ds fs = true
  | [], [], _, h, _ => by cases h
  | [], _ :: _, [], _, h => by cases h
  | [], _ :: _, _ :: _, _, _ => rfl
  | _ :: _, [], _, h, _ => by cases h
  | _ :: _, _ :: _, [], _, h => by cases h
  | d :: ds, e :: es, f :: fs, h1, h2 => by
    rw [lts_cons] at h1 h2 ⊢
    by_cases q : D.beq d e = true
    · have q' := (beq_iff d e).mp q
      subst q'
      rw [if_pos q] at h1
      by_cases q2 : D.beq d f = true
      · rw [if_pos q2] at h2 ⊢
        exact lts_trans' ds es fs h1 h2
      · rw [if_neg q2] at h2 ⊢
        exact h2
    · rw [if_neg q] at h1
      by_cases q2 : D.beq e f = true
      · have q' := (beq_iff e f).mp q2
        subst q'
        rw [if_neg q]
        exact h1
      · rw [if_neg q2] at h2
        have h3 := lt_trans' d e f h1 h2
        rw [if_neg (fun z => by
          have := (beq_iff d f).mp z
          subst this
          have h4 := lt_trans' d e d h1 h2
          rw [lt_irr] at h4
          cases h4)]
        exact h3
end
theorem lt_swo : SrtO.Swo D.lt := by
  refine ⟨fun x y h => ?_, fun x y z h1 h2 => ?_⟩
  · cases q : D.lt y x with
    | false => rfl
    | true =>
      have := lt_trans' x y x h q
      rw [lt_irr] at this
      cases this
  · cases q : D.lt z x with
    | false => rfl
    | true =>
      cases p : D.lt x y with
      | true =>
        have := lt_trans' z x y q p
        rw [h2] at this
        cases this
      | false =>
        have e := lt_tri x y p h1
        subst e
        rw [h2] at q
        cases q
/-- sorted by insertion -/
def ins (d : D) : List D → List D
  | [] => [d]
  | e :: r => if D.lt e d = true then e :: ins d r else d :: e :: r
def isort : List D → List D
  | [] => []
  | d :: r => ins d (isort r)
theorem ins_perm (d : D) : ∀ l : List D, (ins d l).Perm (d :: l)
  | [] => List.Perm.refl _
  | e :: r => by
    unfold ins
    split
    · exact ((ins_perm d r).cons e).trans (List.Perm.swap d e r)
    · exact List.Perm.refl _
theorem isort_perm : ∀ l : List D, (isort l).Perm l
  | [] => List.Perm.refl _
  | d :: r => (ins_perm d _).trans ((isort_perm r).cons d)
theorem ins_srtd (d : D) : ∀ {l : List D}, SrtO.Srtd D.lt l → SrtO.Srtd D.lt (ins d l)
  | [], _ => List.pairwise_singleton _ _
  | e :: r, h => by
    unfold ins
    have h := List.pairwise_cons.mp h
    split
    · rename_i q
      refine List.pairwise_cons.mpr ⟨fun y hy => ?_, ins_srtd d h.2⟩
      rcases List.mem_cons.mp ((ins_perm d r).mem_iff.mp hy) with z | z
      · subst z
        exact lt_swo.asym _ _ q
      · exact h.1 y z
    · rename_i q
      have q : D.lt e d = false := by
        cases z : D.lt e d with
        | false => rfl
        | true => exact absurd z q
      refine List.pairwise_cons.mpr ⟨fun y hy => ?_, List.pairwise_cons.mpr h⟩
      rcases List.mem_cons.mp hy with z | z
      · subst z
        exact q
      · exact lt_swo.tr d e y q (h.1 y z)
theorem isort_srtd : ∀ l : List D, SrtO.Srtd D.lt (isort l)
  | [] => List.Pairwise.nil
  | d :: r => ins_srtd d (isort_srtd r)
/-- there is just one sorted arrangement -/
theorem srtd_uniq : ∀ {l m : List D}, SrtO.Srtd D.lt l → SrtO.Srtd D.lt m → l.Perm m → l = m
  | [], m, _, _, h => (List.Perm.eq_nil h.symm).symm
  | x :: l, [], _, _, h => absurd h.length_eq (by simp)
  | x :: l, y :: m, hl, hm, h => by
    have h1 : D.lt x y = false := by
      rcases List.mem_cons.mp (h.mem_iff.mp (List.mem_cons_self (a := x) (l := l))) with e | hx
      · rw [e]; exact lt_irr y
      · exact SrtO.srtd_head hm x hx
    have h2 : D.lt y x = false := by
      rcases List.mem_cons.mp (h.mem_iff.mpr (List.mem_cons_self (a := y) (l := m))) with e | hy
      · rw [e]; exact lt_irr x
      · exact SrtO.srtd_head hl y hy
    have e := lt_tri x y h1 h2
    subst e
    rw [srtd_uniq (List.pairwise_cons.mp hl).2 (List.pairwise_cons.mp hm).2 h.cons_inv]

/-! ### which may be compared -/
mutual
def cmpb : D → D → Bool
  | .int _, .int _ => true
  | .str _, .str _ => true
  | .tup xs, .tup ys => cmpbs xs ys
  | _, _ => false
def cmpbs : List D → List D → Bool
  | x :: xs, y :: ys => if D.beq x y = true then cmpbs xs ys else cmpb x y
  | _, _ => true
end
theorem cmpbs_cons (x y : D) (xs ys : List D) : cmpbs (x :: xs) (y :: ys) = if D.beq x y = true then cmpbs xs ys else cmpb x y := rfl
section
variable {prog : Program} {w : World}
def LtOk (prog : Program) (w : World) (n : Nat) : Prop := ∀ (d e : D) (u v : Value) (A : Around) (E : Value → Shared → Prop) (s : Shared) (Q : Value → Shared → Prop), GK s.heap d u → GK s.heap e v → D.gk n d = true → D.gk n e = true → cmpb d e = true →
  A.units + 70 < cLine → Q (.bool (D.lt d e)) s → wpAny (model prog w) A (richCompare .Lt u v) Q E s
def EqbOk {A : Around} {s : Shared} {d e : D} {u v : Value} {n : Nat} {E : Value → Shared → Prop} (hn : n ≤ 60) (a : GK s.heap d u) (b : GK s.heap e v) (h1 : D.gk n d = true) (h2 : D.gk n e = true) (hu : A.units + 64 < cLine) {Q : Bool → Shared → Prop} (h : Q (D.beq d e) s) : wpAny (model prog w) A (eqBool u v) Q E s := by
  obtain ⟨as, r1⟩ := a.reads
  obtain ⟨bs, r2⟩ := b.reads
  obtain ⟨c1, d1⟩ := gnd_shape n _ (gk_gnd n _ h1)
  obtain ⟨c2, d2⟩ := gnd_shape n _ (gk_gnd n _ h2)
  refine SeqAt.eqBoolOverData prog w A E s _ _ _ _ as bs Q r1 r2 c1 c2 (by omega) ?_
  rw [eqv_toP n _ _ (gk_gnd n _ h1) (gk_gnd n _ h2)]
  have e : D.eqv d e = D.beq d e := by
    have z := gk_eqv n _ _ h1 h2
    have y := beq_iff d e
    cases p : D.eqv d e with
    | true => rw [y.mpr (z.mp p)]
    | false =>
      cases q : D.beq d e with
      | false => rfl
      | true => rw [z.mpr (y.mp q)] at p; cases p
  rw [e]
  exact h
def LtOk' (prog : Program) (w : World) (n : Nat) : Prop := ∀ (d e : D) (u v : Value) (A : Around) (E : Value → Shared → Prop) (s : Shared) (Q : Value → Shared → Prop), GK s.heap d u → GK s.heap e v → D.gk n d = true → D.gk n e = true → cmpb d e = true →
  A.units + 70 + n < cLine → Q (.bool (D.lt d e)) s → wpAny (model prog w) A (richCompare .Lt u v) Q E s
section
variable {A : Around} {E : Value → Shared → Prop} {s : Shared}
theorem tuple_lt_tree {n : Nat} (hn : n ≤ 60) (ih : LtOk' prog w n) {ds es : List D} {a b : Addr} {P : Fin → Shared → Prop} {oa ob : Obj} {xs ys : Array Value} {na nb : Nat} (hoa : s.heap.get? a = some oa) (hca : oa.cls = .type "tuple") (hda : oa.data = .seq xs na) (hia : GKs s.heap ds xs.toList)
    (hob : s.heap.get? b = some ob) (hcb : ob.cls = .type "tuple") (hdb : ob.data = .seq ys nb) (hib : GKs s.heap es ys.toList) (h1 : D.gks n ds = true) (h2 : D.gks n es = true) (hc : cmpbs ds es = true) (hu : A.units + 70 + n < cLine)
    (h : P (.done (.ret (.bool (D.lts ds es)))) s) : wpAny (model prog w) A (Builtin.«tuple.__lt__» ⟨[.ref a, .ref b], []⟩) P E s := by
  have hTb : s.TypeIs (.ref b) "tuple" := ⟨ob, hob, hcb⟩
  have la : ds.length = xs.size := by
    have := GK.len hia
    simpa using this
  have lb : es.length = ys.size := by
    have := GK.len hib
    simpa using this
  show wpAny _ _ (isInstance (.ref b) (.type "tuple") >>= _) _ _ s
  refine wpAny_bind (wpAny_isInstance hTb PySem.isSubtype_tuple_tuple ?_)
  simp only [Bool.not_true, Bool.false_eq_true, if_false]
  refine wpAny_bind (wpAny_tupleItemsOf hoa hda ?_)
  refine wpAny_bind (wpAny_tupleItemsOf hob hdb ?_)
  refine wpAny_bind ?_
  refine wpAny_forIn_list _
    (fun rest r s' => r.1 = none ∧ s' = s ∧ ∃ ds' es' xs' ys', rest = List.zip xs' ys' ∧ GKs s.heap ds' xs' ∧ GKs s.heap es' ys' ∧ D.gks n ds' = true ∧ D.gks n es' = true ∧ cmpbs ds' es' = true ∧ D.lts ds' es' = D.lts ds es ∧ ds'.length + ys.size = es'.length + xs.size)
    _ ?_ ?_ _ _ ⟨rfl, rfl, ds, es, xs.toList, ys.toList, rfl, hia, hib, h1, h2, hc, rfl, by omega⟩
  · rintro ⟨u, v⟩ rest r s' ⟨hr, rfl, ds', es', xs', ys', hz, hx', hy', g1, g2, hc', hdec, hlen⟩
    cases hx' with
    | nil => simp at hz
    | cons a1 hx'' =>
      cases hy' with
      | nil => simp at hz
      | cons a2 hy'' =>
        rename_i d u' ds'' xs'' e v' es'' ys''
        simp only [List.zip_cons_cons, List.cons.injEq, Prod.mk.injEq] at hz
        obtain ⟨⟨rfl, rfl⟩, rfl⟩ := hz
        unfold D.gks at g1 g2
        rw [Bool.and_eq_true] at g1 g2
        rw [cmpbs_cons] at hc'
        rw [lts_cons] at hdec
        rw [List.length_cons, List.length_cons] at hlen
        refine wpAny_bind (EqbOk hn a1 a2 g1.1 g2.1 (by omega) ?_)
        cases hk : D.beq d e with
        | true =>
          rw [hk, if_pos rfl] at hc' hdec
          simp only [Bool.not_true, Bool.false_eq_true, if_false]
          exact wpAny_pure ⟨rfl, rfl, ds'', es'', xs'', ys'', rfl, hx'', hy'', g1.2, g2.2, hc', hdec, by omega⟩
        | false =>
          rw [hk, if_neg Bool.false_ne_true] at hc' hdec
          simp only [Bool.not_false, if_true]
          rw [← hdec] at h
          exact wpAny_bind (wpAny_rule (wpAny_bind (ih d e u v A E s' _ a1 a2 g1.1 g2.1 hc' (by omega) (wpAny_bind (wpAny_pure (wpAny_pure (wpAny_pure h)))))))
  · rintro ⟨r1, r2⟩ s' ⟨hr, rfl, ds', es', xs', ys', hz, hx', hy', g1, g2, hc', hdec, hlen⟩
    simp only at hr
    subst hr
    refine wpAny_pure ?_
    rw [← hdec] at h
    have hfin : D.lts ds' es' = decide (xs.size < ys.size) := by
      cases hx' with
      | nil =>
        cases hy' with
        | nil =>
          simp only [List.length_nil] at hlen
          exact (decide_eq_false (by omega)).symm
        | cons _ _ =>
          simp only [List.length_nil, List.length_cons] at hlen
          exact (decide_eq_true (by omega)).symm
      | cons _ _ =>
        cases hy' with
        | nil =>
          simp only [List.length_nil, List.length_cons] at hlen
          exact (decide_eq_false (by omega)).symm
        | cons _ _ => simp at hz
    rw [hfin] at h
    exact h
theorem lt_ok : ∀ n, n ≤ 60 → LtOk' prog w n := by
  intro n
  induction n with
  | zero =>
    intro _ d e u v A E s Q a b h1 h2 hc hu h
    cases a with
    | int i t =>
      cases b with
      | int j t' => exact (PyProof.Rows.lt_int h : wpAny (model prog w) A (compareOp .Lt _ _) Q E s)
      | _ => cases hc
    | str x t =>
      cases b with
      | str y t' => exact (PyProof.Rows.lt_str h : wpAny (model prog w) A (compareOp .Lt _ _) Q E s)
      | _ => cases hc
    | tup ho hc hd hi => unfold D.gk at h1; cases h1
  | succ n ih =>
    intro hn d e u v A E s Q a b h1 h2 hc hu h
    cases a with
    | int i t =>
      cases b with
      | int j t' => exact (PyProof.Rows.lt_int h : wpAny (model prog w) A (compareOp .Lt _ _) Q E s)
      | _ => cases hc
    | str x t =>
      cases b with
      | str y t' => exact (PyProof.Rows.lt_str h : wpAny (model prog w) A (compareOp .Lt _ _) Q E s)
      | _ => cases hc
    | tup ho hca hd hi =>
      cases b with
      | int j t' => cases hc
      | str y t' => cases hc
      | tup ho' hcb hd' hi' =>
        rename_i a oa xs na ds b ob ys nb es
        unfold D.gk at h1 h2
        exact wpAny_richCompare_same_room (op := .Lt) ⟨_, ho, hca⟩ ⟨_, ho', hcb⟩ PySem.F.slot_tuple_lt
          (wpAny_call_entry PySem.F.slot_tuple_lt ⟨_, ho, hca⟩ PySem.F.entry_tuple_lt (tuple_lt_tree (by omega) (ih (by omega)) ho hca hd hi ho' hcb hd' hi' h1 h2 hc (by rw [units_in1]; omega) ⟨_, rfl, (fun e => nomatch e), h⟩) (PySem.F.args_tuple_lt_2 _ _)) (by omega)
/-- the sort's own question -/
theorem oneLt_ok {n : Nat} (hn : n ≤ 60) {d e : D} {u v : Value} {bb : Bool} {Q : Bool → Shared → Prop} (a : GK s.heap d u) (b : GK s.heap e v) (h1 : D.gk n d = true) (h2 : D.gk n e = true) (hc : cmpb d e = true) (hu : A.units + 71 + n < cLine) (h : Q (D.lt d e) s) :
    wpAny (model prog w) A (oneLt' bb u v) Q E s := by
  cases bb with
  | false =>
    rw [oneLt'_eq]
    simp only [Bool.false_eq_true, if_false]
    exact wpAny_bind (lt_ok n hn d e u v A E s _ a b h1 h2 hc (by omega) (wpAny_truthy_bool h))
  | true =>
    cases a with
    | int i t =>
      cases b with
      | int j t' => exact oneLt_int h
      | _ => cases hc
    | str x t =>
      cases b with
      | str y t' => exact oneLt_str h
      | _ => cases hc
    | tup ho hca hd hi =>
      cases b with
      | int j t' => cases hc
      | str y t' => cases hc
      | tup ho' hcb hd' hi' =>
        cases n with
        | zero => unfold D.gk at h1; cases h1
        | succ n =>
          unfold D.gk at h1 h2
          rw [oneLt'_eq]
          simp only [if_true]
          refine wpAny_bind (wpAny_cRoomFor_or (.inr (by omega)) ?_)
          refine wpAny_bind (wpAny_callSpecialIfBound?_slot (name := Str.ofString "__lt__") ⟨_, ho, hca⟩ PySem.F.slot_tuple_lt
            (wpAny_call_entry PySem.F.slot_tuple_lt ⟨_, ho, hca⟩ PySem.F.entry_tuple_lt (tuple_lt_tree (by omega) (lt_ok n (by omega)) ho hca hd hi ho' hcb hd' hi' h1 h2 hc (by rw [units_in1]; omega) ⟨_, rfl, ?_⟩) (PySem.F.args_tuple_lt_2 _ _)))
          exact wpAny_truthy_bool h
theorem katlex {n : Nat} (hn : n ≤ 60) {bb fin : Bool} {Q : Bool → Shared → Prop} : ∀ (ds es : List D) (vs ws : List Value) (i : Nat), GKs s.heap ds vs → GKs s.heap es ws → D.gks n ds = true → D.gks n es = true → cmpbs ds es = true → A.units + 71 + n < cLine →
    (∀ k, fin = decide (ds.length + k < es.length + k)) → Q (D.lts ds es) s → PySem.W.KatLex prog w A bb fin Q (vs.zip ws) i s
  | [], es, _, ws, i, .nil, b, _, _, _, _, hf, h => by
    rw [List.zip_nil_left]
    refine PySem.W.kat_nil ?_
    have e : D.lts [] es = fin := by
      have := hf 0
      cases es with
      | nil => rw [this]; rfl
      | cons e es => rw [this]; rfl
    rw [← e]
    exact h
  | d :: ds, [], _, _, i, .cons a1 a2, .nil, _, _, _, _, hf, h => by
    rw [List.zip_nil_right]
    refine PySem.W.kat_nil ?_
    have := hf 0
    rw [this]
    exact h
  | d :: ds, e :: es, _, _, i, .cons a1 a2, .cons b1 b2, g1, g2, hc, hu, hf, h => by
    unfold D.gks at g1 g2
    rw [Bool.and_eq_true] at g1 g2
    rw [cmpbs_cons] at hc
    rw [lts_cons] at h
    rw [List.zip_cons_cons]
    refine PySem.W.kat_cons (EqbOk hn a1 b1 g1.1 g2.1 (by omega) ?_)
    cases hk : D.beq d e with
    | true =>
      rw [hk, if_pos rfl] at hc h
      exact PySem.W.kat_yes (katlex hn ds es _ _ (i + 1) a2 b2 g1.2 g2.2 hc hu (fun k => by
        rw [hf k]
        simp only [List.length_cons]
        congr 1
        apply propext
        omega) h)
    | false =>
      rw [hk, if_neg Bool.false_ne_true] at hc h
      exact PySem.W.kat_no (oneLt_ok hn a1 b1 g1.1 g2.1 hc hu h)
def isTupD : D → Bool
  | .tup _ => true
  | _ => false
inductive KOk (ds : List D) : SortKind → Prop
  | one : KOk ds oneType'
  | gen : KOk ds general'
  | tups (b : Bool) : ds.all isTupD = true → KOk ds (tuples' b)
theorem keyLt_ok {n : Nat} (hn : n < 60) {κ : SortKind} {ds : List D} (k : KOk ds κ) {d e : D} (md : d ∈ ds) (me : e ∈ ds) {u v : Value} {Q : Bool → Shared → Prop} (a : GK s.heap d u) (b : GK s.heap e v) (h1 : D.gk (n + 1) d = true) (h2 : D.gk (n + 1) e = true) (hc : cmpb d e = true) (hu : A.units + 72 + n < cLine)
    (h : Q (D.lt d e) s) : wpAny (model prog w) A (keyLt' κ u v) Q E s := by
  cases k with
  | one => rw [keyLt'_oneType]; exact oneLt_ok (by omega) a b h1 h2 hc (by omega) h
  | gen => exact (oneLt_ok (bb := false) (n := n + 1) (by omega) a b h1 h2 hc (by omega) h : wpAny (model prog w) A (oneLt' false u v) Q E s)
  | tups bb hall =>
    rw [List.all_eq_true] at hall
    have t1 := hall d md
    have t2 := hall e me
    cases a with
    | int i t => cases t1
    | str x t => cases t1
    | tup ho hca hd hi =>
      cases b with
      | int j t' => cases t2
      | str y t' => cases t2
      | tup ho' hcb hd' hi' =>
        rename_i a oa xs na ds' b ob ys nb es'
        unfold D.gk at h1 h2
        have la : ds'.length = xs.size := by
          have := GK.len hi
          simpa using this
        have lb : es'.length = ys.size := by
          have := GK.len hi'
          simpa using this
        refine PySem.W.kat_lt ho hd ho' hd' (katlex (n := n) (by omega) ds' es' _ _ 0 hi hi' h1 h2 hc (by omega) (fun k => ?_) h)
        rw [la, lb]
        congr 1
        apply propext
        omega
def tyD : D → Value
  | .int _ => .type "int"
  | .str _ => .type "str"
  | .tup _ => .type "tuple"
  | _ => .none
theorem typeOf_gk {M : Model} {d : D} {u : Value} {Q : Value → Shared → Prop} (a : GK s.heap d u) (h : Q (tyD d) s) : wpAny M A (typeOf u) Q E s := by
  cases a with
  | int i t => exact wpAny_pure h
  | str x t => exact wpAny_pure h
  | tup ho hc hd hi => exact wpAny_typeOf ⟨_, ho, hc⟩ h
theorem types_gk {M : Model} : ∀ {ds : List D} {vs : List Value} {Q : List Value → Shared → Prop}, GKs s.heap ds vs → Q (ds.map tyD) s → wpAny M A (vs.mapM typeOf) Q E s
  | _, _, Q, .nil, h => by
    rw [List.mapM_nil]
    exact wpAny_pure h
  | d :: ds, _, Q, .cons (vs := vs) a b, h => by
    rw [List.mapM_cons]
    exact wpAny_bind (typeOf_gk a (wpAny_bind (types_gk (Q := fun bs s' => wpAny M A (pure (tyD d :: bs)) Q E s') b (wpAny_pure h))))
theorem oneType_gk {M : Model} {ds : List D} {vs : List Value} {Q : Option Value → Shared → Prop} (a : GKs s.heap ds vs) (h : Q (match (ds.map tyD).toArray[0]? with
    | some t => if (ds.map tyD).toArray.all (· == t) then some t else none
    | none => none) s) : wpAny M A (oneTypeOnly' vs.toArray) Q E s := by
  rw [oneTypeOnly'_eq, List.mapM_toArray, map_eq_pure_bind]
  refine wpAny_bind (wpAny_bind (types_gk a (wpAny_pure ?_)))
  generalize (ds.map tyD).toArray[0]? = o at h ⊢
  cases o with
  | none => exact wpAny_pure h
  | some t => exact wpAny_pure h
def headD : D → Option D
  | .tup (d :: _) => some d
  | _ => none
inductive HeadV (h : Heap) : Option D → Option Value → Prop
  | none : HeadV h none none
  | some {d : D} {v : Value} : GK h d v → HeadV h (some d) (some v)
theorem first_gk {M : Model} {A : Around} {d : D} {u : Value} (a : GK s.heap d u) (ht : isTupD d = true) : ∃ o, HeadV s.heap (headD d) o ∧ ∀ (Q : Option Value → Shared → Prop) (E : Value → Shared → Prop), Q o s → wpAny M A (firstOfTuple' u) Q E s := by
  cases a with
  | int i t => cases ht
  | str x t => cases ht
  | tup ho hc hd hi =>
    rename_i a oa xs na ds
    refine ⟨xs[0]?, ?_, fun Q E h => ?_⟩
    · have e : xs[0]? = xs.toList[0]? := by simp
      rw [e]
      generalize xs.toList = l at hi ⊢
      cases hi with
      | nil => exact .none
      | cons a b => exact .some a
    · rw [PySem.W.kas_first_eq]
      refine wpAny_bind (wpAny_typeOf ⟨_, ho, hc⟩ ?_)
      rw [if_neg (by first | decide | simp)]
      exact wpAny_bind (listItems_at ho hd (wpAny_pure h))
theorem firsts_gk {M : Model} {A : Around} : ∀ {ds : List D} {vs : List Value}, GKs s.heap ds vs → ds.all isTupD = true → ∃ os, Paired (HeadV s.heap) (ds.map headD) os ∧ ∀ (Q : List (Option Value) → Shared → Prop) (E : Value → Shared → Prop), Q os s → wpAny M A (vs.mapM firstOfTuple') Q E s
  | _, _, .nil, _ => ⟨[], .nil, fun Q E h => by
    rw [List.mapM_nil]
    exact wpAny_pure h⟩
  | d :: ds, _, .cons (vs := vs) a b, ht => by
    rw [List.all_cons, Bool.and_eq_true] at ht
    obtain ⟨o, h1, k1⟩ := first_gk (M := M) (A := A) a ht.1
    obtain ⟨os, h2, k2⟩ := firsts_gk (M := M) (A := A) b ht.2
    refine ⟨o :: os, .cons h1 h2, fun Q E h => ?_⟩
    rw [List.mapM_cons]
    exact wpAny_bind (k1 _ _ (wpAny_bind (k2 _ _ (wpAny_pure h))))
theorem heads_some {h : Heap} : ∀ {ds : List D} {os : List (Option Value)}, Paired (HeadV h) (ds.map headD) os → (os.all (·.isSome)) = true → ∃ fs ws, ds.map headD = fs.map some ∧ os = ws.map some ∧ GKs h fs ws
  | [], _, .nil, _ => ⟨[], [], rfl, rfl, .nil⟩
  | d :: ds, _, p, ha => by
    cases p with
    | cons a b =>
      rename_i o os
      rw [List.all_cons, Bool.and_eq_true] at ha
      obtain ⟨fs, ws, e1, e2, g⟩ := heads_some b ha.2
      cases e : headD d with
      | none =>
        rw [e] at a
        cases a
        cases ha.1
      | some f =>
        rw [e] at a
        cases a with
        | some a => exact ⟨f :: fs, _ :: ws, by rw [List.map_cons, List.map_cons, e, e1], by rw [List.map_cons, e2], .cons a g⟩
theorem kind_of_list {M : Model} {A : Around} {ds : List D} {vs : List Value} (a : GKs s.heap ds vs) (h2 : 2 ≤ ds.length) (hc : ∀ d ∈ ds, ∀ e ∈ ds, cmpb d e = true ∨ d = e) (hk : ∀ d ∈ ds, isTupD d = true ∨ (∃ i, d = .int i) ∨ ∃ x, d = .str x) :
    ∃ κ, KOk ds κ ∧ ∀ (Q : SortKind → Shared → Prop) (E : Value → Shared → Prop), Q κ s → wpAny M A (keyKind' vs.toArray) Q E s := by
  obtain ⟨d0, d1, dr, rfl⟩ : ∃ d0 d1 dr, ds = d0 :: d1 :: dr := by
    match ds, h2 with
    | d0 :: d1 :: dr, _ => exact ⟨d0, d1, dr, rfl⟩
    | [d], h => exact absurd h (by simp)
    | [], h => exact absurd h (by simp)
  have l2 : 2 ≤ vs.length := by rw [← GK.len a]; exact h2
  have look : ∀ T, (∀ d ∈ d0 :: d1 :: dr, tyD d = T) → ∀ v ∈ vs, PySem.W.Looks M s.heap (typeOf v) T := by
    intro T hT
    have all : ∀ {ds : List D} {vs : List Value}, GKs s.heap ds vs → (∀ d ∈ ds, tyD d = T) → ∀ v ∈ vs, PySem.W.Looks M s.heap (typeOf v) T := by
      intro ds vs g
      induction ds generalizing vs with
      | nil => cases g; intro _ v hv; simp at hv
      | cons d ds ih =>
        cases g with
        | cons a b =>
          intro hT v hv
          rcases List.mem_cons.mp hv with e | hv
          · subst e
            have hd := hT d List.mem_cons_self
            cases a with
            | int i t => rw [← hd]; exact PySem.W.Looks.now
            | str x t => rw [← hd]; exact PySem.W.Looks.now
            | tup ho hc' hd' hi =>
              rw [← hd]
              intro A Q E s' k q
              exact wpAny_typeOf ⟨_, k _ _ ho, hc'⟩ q
          · exact ih b (fun d hd => hT d (List.mem_cons_of_mem _ hd)) v hv
    exact all a hT
  have c0 := fun e he => hc d0 List.mem_cons_self e he
  rcases hk d0 List.mem_cons_self with t | ⟨i, rfl⟩ | ⟨x, rfl⟩
  · have hall : (d0 :: d1 :: dr).all isTupD = true := by
      rw [List.all_eq_true]
      intro e he
      rcases c0 e he with q | q
      · cases d0 <;> first | cases t | skip
        cases e <;> first | rfl | cases q
      · rw [← q]; exact t
    -- all are tuples
    obtain ⟨os, hos, kos⟩ := firsts_gk (M := M) (A := A) a hall
    have start : ∀ (Q : SortKind → Shared → Prop) (E : Value → Shared → Prop), wpAny M A (do
        if os.toArray.all (·.isSome) then
          rule "list.sort.keys-are-tuples"
          return tuples' ((← oneTypeOnly' (os.toArray.filterMap id)).any (· != .type "tuple"))
        if (os.toArray[0]?.bind id).isSome then return general'
        return if (← oneTypeOnly' vs.toArray).isSome then oneType' else general') Q E s → wpAny M A (keyKind' vs.toArray) Q E s := fun Q E h => by
      rw [keyKind'_eq, List.mapM_toArray, map_eq_pure_bind]
      exact wpAny_bind (wpAny_bind (kos _ _ (wpAny_pure h)))
    by_cases hs : os.all (·.isSome) = true
    · obtain ⟨fs, ws, e1, e2, g⟩ := heads_some hos hs
      refine ⟨tuples' (((match (fs.map tyD).toArray[0]? with
        | some t => if (fs.map tyD).toArray.all (· == t) then some t else none
        | none => none : Option Value)).any (· != .type "tuple")), .tups _ hall, fun Q E hq => start Q E ?_⟩
      rw [if_pos (by simpa using hs)]
      refine wpAny_bind (wpAny_rule ?_)
      have ef : os.toArray.filterMap id = ws.toArray := by rw [e2]; simp
      rw [ef]
      exact wpAny_bind (oneType_gk g (wpAny_pure hq))
    · by_cases h0 : (os.toArray[0]?.bind id).isSome = true
      · refine ⟨general', .gen, fun Q E hq => start Q E ?_⟩
        rw [if_neg (by simpa using hs)]
        simp only [h0, if_true]
        exact wpAny_pure hq
      · refine ⟨(if ((match ((d0 :: d1 :: dr).map tyD).toArray[0]? with
          | some t => if ((d0 :: d1 :: dr).map tyD).toArray.all (· == t) then some t else none
          | none => none : Option Value)).isSome = true then oneType' else general'), ?_, fun Q E hq => start Q E ?_⟩
        · generalize (match ((d0 :: d1 :: dr).map tyD).toArray[0]? with
            | some t => if ((d0 :: d1 :: dr).map tyD).toArray.all (· == t) then some t else none
            | none => none : Option Value) = z
          cases z with
          | none => exact .gen
          | some z => exact .one
        · rw [if_neg (by simpa using hs)]
          simp only [h0, if_false]
          exact wpAny_bind (oneType_gk a (wpAny_pure hq))
  · have hT : ∀ d ∈ (.int i : D) :: d1 :: dr, tyD d = .type "int" := fun e he => by
      rcases c0 e he with q | q
      · cases e <;> first | rfl | cases q
      · rw [← q]; rfl
    exact ⟨oneType', .one, fun Q E hq => PySem.W.kas_kind l2 (look _ hT) (by first | decide +kernel | rfl | decide) (by first | decide +kernel | rfl | decide) hq⟩
  · have hT : ∀ d ∈ (.str x : D) :: d1 :: dr, tyD d = .type "str" := fun e he => by
      rcases c0 e he with q | q
      · cases e <;> first | rfl | cases q
      · rw [← q]; rfl
    exact ⟨oneType', .one, fun Q E hq => PySem.W.kas_kind l2 (look _ hT) (by first | decide +kernel | rfl | decide) (by first | decide +kernel | rfl | decide) hq⟩
end
end
end DL
end S_DLs
section S_DLo
set_option Elab.async false
set_option linter.all false
set_option maxRecDepth 100000
set_option autoImplicit false
namespace DL
open PySem PySem.Spec PyProof.Rows L2

/-! ### more of what is reckoned: definitions alone -/
def lim (n : Nat) : Bool := Nat.ble n LIM
/-- the items of a tuple or list -/
def seqI (d : D) (st : Sto) : Option (List D) := match d with
  | .tup ds => some ds
  | .ref n => st.list n
  | _ => none
def O.raw : O → O
  | .lk o => o
  | o => o
def dget (k : Key) : List (Key × D) → Option D
  | [] => none
  | p :: r => match decide (p.1 = k) with
    | true => some p.2
    | false => dget k r
def gget (k : List D) : List (List D × D) → Option D
  | [] => none
  | p :: r => match D.beqs p.1 k with
    | true => some p.2
    | false => gget k r
def dset (k : Key) (v : D) (kvs : List (Key × D)) : List (Key × D) := match dget k kvs with
  | some _ => kvs.map fun p => match decide (p.1 = k) with
    | true => (p.1, v)
    | false => p
  | none => kvs ++ [(k, v)]
def gset (k : List D) (v : D) (kvs : List (List D × D)) : List (List D × D) := match gget k kvs with
  | some _ => kvs.map fun p => match D.beqs p.1 k with
    | true => (p.1, v)
    | false => p
  | none => kvs ++ [(k, v)]
def D.key : D → Option Key
  | .int i => some (.inl i)
  | .str x => some (.inr x)
  | _ => none
def Sto.raw (st : Sto) (n : Nat) : Option O := match st.get n with
  | some o => some o.raw
  | none => none
def intsOf' : List D → Option (List Int)
  | [] => some []
  | .int i :: r => match intsOf' r with
    | some is => some (i :: is)
    | none => none
  | _ => none
def strsOf' : List D → Option (List Str)
  | [] => some []
  | .str i :: r => match strsOf' r with
    | some is => some (i :: is)
    | none => none
  | _ => none
/-- is there, and what, under the key? -/
def look (st : Sto) (n : Nat) (k : D) : Option (Option D) := match st.raw n with
  | some (.dk kvs) => match k.key with
    | some k => some (dget k kvs)
    | none => none
  | some (.dg kvs) => match k with
    | .tup ks => if D.gks 7 ks = true then some (gget ks kvs) else none
    | _ => none
  | _ => none
def oIx (d e : D) (st : Sto) : Rs D := match d with
  | .tup ds => match e with
    | .int i => match L2.atI ds i with
      | some d => .ok d st
      | none => .no
    | _ => .no
  | .str x => match e with
    | .int i => if Nat.ble x.length LIM = true then match L2.atI x.cps.toList i with
      | some c => .ok (.str ⟨#[c]⟩) st
      | none => .no
      else .no
    | _ => .no
  | .ref n => match st.list n with
    | some ds => match e with
      | .int i => match L2.atI ds i with
        | some d => .ok d st
        | none => .no
      | _ => .no
    | none => match look st n e with
      | some (some d) => .ok d st
      | _ => .no
  | _ => .no
/-- a in b -/
def dIn (d e : D) (st : Sto) : Option Bool := match e with
  | .ref n => match st.list n with
    | some ds => if (D.gnd 60 d && D.gnds 60 ds) = true then some (ds.any fun x => D.eqv x d) else none
    | none => match look st n d with
      | some o => some o.isSome
      | none => none
  | .tup ds => match d with
    | .int i => match intsOf' ds with
      | some is => some (is.any fun j => j == i)
      | none => none
    | .str x => match strsOf' ds with
      | some is => some (is.any fun j => j == x)
      | none => none
    | _ => none
  | _ => none
def oIn (d e : D) (st : Sto) : Rs D := match dIn d e st with
  | some k => .ok (.bl k) st
  | none => .no
def oNotIn (d e : D) (st : Sto) : Rs D := match dIn d e st with
  | some k => .ok (.bl (!k)) st
  | none => .no
/-- slices: the bounds of a step of 1 -/
def cutD {α : Type} (ds : List α) (lo hi : Option Int) : List α := (ds.drop (HT.sIx ds.length 0 lo)).take (HT.sIx ds.length ds.length hi - HT.sIx ds.length 0 lo)
def oSl (lo hi : Option Int) (d : D) (st : Sto) : Rs D := match d with
  | .tup ds => .ok (.tup (cutD ds lo hi)) st
  | .ref n => match st.list n with
    | some ds => .ok (.ref st.sz) (st.push (.lst (cutD ds lo hi)))
    | none => .no
  | .str x => if Nat.ble x.length LIM = true then .ok (.str (cutS x lo hi)) st else .no
  | _ => .no
abbrev Po := Nat → Env → Sto → Rs (Option Int)
def pNo : Po := fun _ _ st => .ok none st
def pSo (f : Ex) : Po := fun b env st => (f b env st).bind fun d st => match d with
  | .int i => .ok (some i) st
  | _ => .no
def cSl (f : Ex) (lo hi : Po) : Ex := fun b env st => (f b env st).bind fun d st => (lo b env st).bind fun i st => (hi b env st).bind fun j st => oSl i j d st
def oRev (d : D) (st : Sto) : Rs D := match d with
  | .tup ds => .ok (.tup ds.reverse) st
  | .ref n => match st.list n with
    | some ds => .ok (.ref st.sz) (st.push (.lst ds.reverse))
    | none => .no
  | _ => .no
/-! ### built-ins: of the arguments -/
def O.len : O → Nat
  | .lst ds => ds.length
  | .dk kvs => kvs.length
  | .dg kvs => kvs.length
  | .lk o => O.len o
def bLen : Fn := fun ds st => match ds with
  | [.tup xs] => .ok (.int xs.length) st
  | [.str x] => if Nat.ble x.length LIM = true then .ok (.int x.length) st else .no
  | [.ref n] => match st.list n with
    | some xs => .ok (.int xs.length) st
    | none => match st.raw n with
      | some (.dk kvs) => .ok (.int kvs.length) st
      | some (.dg kvs) => .ok (.int kvs.length) st
      | _ => .no
  | _ => .no
def kD : Key → D
  | .inl i => .int i
  | .inr x => .str x
/-- what a walk gives -/
def itemsOf (d : D) (st : Sto) : Option (List D) := match d with
  | .tup ds => some ds
  | .ref n => match st.list n with
    | some ds => some ds
    | none => match st.raw n with
      | some (.dk kvs) => some (kvs.map fun p => kD p.1)
      | some (.dg kvs) => some (kvs.map fun p => .tup p.1)
      | _ => none
  | _ => none
def bTuple : Fn := fun ds st => match ds with
  | [.tup xs] => .ok (.tup xs) st
  | [.ref n] => match st.list n with
    | some xs => .ok (.tup xs) st
    | none => .no
  | _ => .no
def bList : Fn := fun ds st => match ds with
  | [.tup xs] => .ok (.ref st.sz) (st.push (.lst xs))
  | [.ref n] => match st.list n with
    | some xs => .ok (.ref st.sz) (st.push (.lst xs))
    | none => match st.raw n with
      | some (.dk kvs) => .ok (.ref st.sz) (st.push (.lst (kvs.map fun p => kD p.1)))
      | _ => .no
  | _ => .no
def cmpAll : List D → Bool
  | [] => true
  | d :: r => (r.all fun e => cmpb d e || D.beq d e) && cmpAll r
def bSorted : Fn := fun ds st => match ds with
  | [d] => match itemsOf d st with
    | some xs => if (D.gks 7 xs && cmpAll xs && lim xs.length) = true then .ok (.ref st.sz) (st.push (.lst (isort xs))) else .no
    | none => .no
  | _ => .no
def nodup : List D → List D
  | [] => []
  | d :: r => let r' := nodup r
    if r'.any (D.beq d) = true then r' else d :: r'
/-- sorted(set(..)) -/
def bSortedSet : Fn := fun ds st => match ds with
  | [d] => match itemsOf d st with
    | some xs => if (D.gks 7 xs && cmpAll xs) = true then .ok (.ref st.sz) (st.push (.lst (isort (nodup xs)))) else .no
    | none => .no
  | _ => .no
def bLenSet : Fn := fun ds st => match ds with
  | [d] => match itemsOf d st with
    | some xs => if D.gks 7 xs = true then .ok (.int (nodup xs).length) st else .no
    | none => .no
  | _ => .no
def D.truth : D → Option Bool
  | .bl b => some b
  | _ => none
def blsOf : List D → Option (List Bool)
  | [] => some []
  | .bl i :: r => match blsOf r with
    | some is => some (i :: is)
    | none => none
  | _ => none
def bAll : Fn := fun ds st => match ds with
  | [.ref n] => match st.list n with
    | some xs => match blsOf xs with
      | some ks => .ok (.bl (ks.all id)) st
      | none => .no
    | none => .no
  | _ => .no
def bAny : Fn := fun ds st => match ds with
  | [.ref n] => match st.list n with
    | some xs => match blsOf xs with
      | some ks => .ok (.bl (ks.any id)) st
      | none => .no
    | none => .no
  | _ => .no
def intsOf : List D → Option (List Int)
  | [] => some []
  | .int i :: r => match intsOf r with
    | some is => some (i :: is)
    | none => none
  | _ => none
def bSum : Fn := fun ds st => match ds with
  | [.ref n] => match st.list n with
    | some xs => match intsOf xs with
      | some is => .ok (.int is.sum) st
      | none => .no
    | none => .no
  | _ => .no
def maxI : Int → List Int → Int
  | m, [] => m
  | m, i :: r => maxI (if m < i then i else m) r
def minI : Int → List Int → Int
  | m, [] => m
  | m, i :: r => minI (if i < m then i else m) r
def bMax : Fn := fun ds st => match ds with
  | [.ref n] => match st.list n with
    | some xs => match intsOf xs with
      | some (i :: is) => .ok (.int (maxI i is)) st
      | _ => .no
    | none => .no
  | [.int i, .int j] => .ok (.int (if j > i then j else i)) st
  | _ => .no
def bMin : Fn := fun ds st => match ds with
  | [.ref n] => match st.list n with
    | some xs => match intsOf xs with
      | some (i :: is) => .ok (.int (minI i is)) st
      | _ => .no
    | none => .no
  | [.int i, .int j] => .ok (.int (if j < i then j else i)) st
  | _ => .no
def bAbs : Fn := fun ds st => match ds with
  | [.int i] => .ok (.int (if i < 0 then -i else i)) st
  | _ => .no
def bInt : Fn := fun ds st => match ds with
  | [.int i] => .ok (.int i) st
  | [.bl k] => .ok (.int (if k = true then 1 else 0)) st
  | _ => .no
inductive Ty where
  | tup | lst | bool | str | int
def isTy (t : Ty) (d : D) (st : Sto) : Option Bool := match d with
  | .tup _ => some (match t with | .tup => true | _ => false)
  | .int _ => some (match t with | .int => true | _ => false)
  | .bl _ => some (match t with | .int => true | .bool => true | _ => false)
  | .str _ => some (match t with | .str => true | _ => false)
  | .non => some false
  | .ref n => match st.list n with
    | some _ => some (match t with | .lst => true | _ => false)
    | none => none
def bIsi (t : Ty) : Fn := fun ds st => match ds with
  | [d] => match isTy t d st with
    | some k => .ok (.bl k) st
    | none => .no
  | _ => .no
def cDk0 : Ex := fun _ _ st => .ok (.ref st.sz) (st.push (.dk []))
def cDg0 : Ex := fun _ _ st => .ok (.ref st.sz) (st.push (.dg []))

/-! ### methods: of the object and the arguments -/
def rg (i : Int) : Bool := Nat.blt i.natAbs 4611686018427387904
/-- may d be put into the object at n? -/
def fits (b n : Nat) (d : D) : Bool := Nat.ble b n || d.lo 0
def mAppend (b : Nat) (d : D) (es : List D) (st : Sto) : Rs D := match d with
  | .ref n => match es with
    | [e] => match st.get n with
      | some (.lst ds) => if (Nat.blt ds.length LIM && fits b n e) = true then .ok .non (st.put n (.lst (ds ++ [e]))) else .no
      | _ => .no
    | _ => .no
  | _ => .no
def mPop (b : Nat) (d : D) (es : List D) (st : Sto) : Rs D := match d with
  | .ref n => match es with
    | [] => match st.get n with
      | some (.lst ds) => match ds[ds.length - 1]? with
        | some e => .ok e (st.put n (.lst ds.dropLast))
        | none => .no
      | _ => .no
    | _ => .no
  | _ => .no
def mPopAt (b : Nat) (d : D) (es : List D) (st : Sto) : Rs D := match d with
  | .ref n => match es with
    | [.int i] => match st.get n with
      | some (.lst ds) => if rg i = true then match seqIndex? i ds.length with
        | some k => match ds[k]? with
          | some e => .ok e (st.put n (.lst (ds.eraseIdx k)))
          | none => .no
        | none => .no
        else .no
      | _ => .no
    | _ => .no
  | _ => .no
/-- extend by another list -/
def mExtend (b : Nat) (d : D) (es : List D) (st : Sto) : Rs D := match d with
  | .ref n => match es with
    | [.ref k] => match st.get n with
      | some (.lst ds) => match st.get k with
        | some (.lst xs) => if (Nat.ble (ds.length + xs.length) LIM && (Nat.ble b n || D.los 0 xs)) = true then .ok .non (st.put n (.lst (ds ++ xs))) else .no
        | _ => .no
      | _ => .no
    | _ => .no
  | _ => .no
def mInsert (b : Nat) (d : D) (es : List D) (st : Sto) : Rs D := match d with
  | .ref n => match es with
    | [.int i, e] => match st.get n with
      | some (.lst ds) => if (decide (0 ≤ i) && rg i && Nat.blt ds.length LIM && fits b n e) = true then .ok .non (st.put n (.lst (ds.take i.toNat ++ [e] ++ ds.drop i.toNat))) else .no
      | _ => .no
    | _ => .no
  | _ => .no
/-- d.get(k), d.get(k, e) -/
def mGet1 (b : Nat) (d : D) (es : List D) (st : Sto) : Rs D := match d with
  | .ref n => match es with
    | [k] => match look st n k with
      | some (some d) => .ok d st
      | some none => .ok .non st
      | none => .no
    | _ => .no
  | _ => .no
def mGet2 (b : Nat) (d : D) (es : List D) (st : Sto) : Rs D := match d with
  | .ref n => match es with
    | [k, e] => match look st n k with
      | some (some d) => .ok d st
      | some none => .ok e st
      | none => .no
    | _ => .no
  | _ => .no
inductive Rv where
  | lst | dict
def isRv (k : Rv) (d : D) (st : Sto) : Bool := match d with
  | .ref n => match k with
    | .lst => (st.list n).isSome
    | .dict => match st.raw n with
      | some (.dk _) => true
      | some (.dg _) => true
      | _ => false
  | _ => false
abbrev Mf := Nat → D → List D → Sto → Rs D
/-- o.m(a, ..), o a list or a dict -/
def cMt (k : Rv) (f : Mf) (o : Ex) (a : Ar) : Ex := fun b env st => (o b env st).bind fun d st => if isRv k d st = true then (a b env st).bind fun es st => f b d es st else .no
/-- a[i] = e: the order of the reckoning is e, a, i -/
def put1 (b : Nat) (d k e : D) (st : Sto) : Option Sto := match d with
  | .ref n => match st.get n with
    | some (.lst ds) => match k with
      | .int i => match ixN ds.length i with
        | some j => if fits b n e = true then some (st.put n (.lst (ds.set j e))) else none
        | none => none
      | _ => none
    | some (.dk kvs) => match k.key with
      | some k => if (Nat.blt kvs.length LIM && fits b n e) = true then some (st.put n (.dk (dset k e kvs))) else none
      | none => none
    | some (.dg kvs) => match k with
      | .tup ks => if (D.gks 7 ks && Nat.blt kvs.length LIM && fits b n e) = true then some (st.put n (.dg (gset ks e kvs))) else none
      | _ => none
    | _ => none
  | _ => none
def sPut (a i e : Ex) : Stm := fun b env st => match ((e b env st).bind fun e st => (a b env st).bind fun d st => (i b env st).bind fun k st => match put1 b d k e st with
    | some s => .ok D.non s
    | none => .no) with
  | .ok _ s => .nx env s
  | .er x s => .er x env s
  | .no => .no
/-- a[i], a list or a dict -/
def gIx (d e : D) (st : Sto) : Option D := match d with
  | .ref n => match st.list n with
    | some ds => match e with
      | .int i => L2.atI ds i
      | _ => none
    | none => match look st n e with
      | some (some d) => some d
      | _ => none
  | _ => none
/-- a[i] op= e -/
def sAugIx (o : D → D → Sto → Rs D) (a i e : Ex) : Stm := fun b env st => match ((a b env st).bind fun d st => (i b env st).bind fun k st => match gIx d k st with
    | none => .no
    | some x => (e b env st).bind fun y st => (o x y st).bind fun z st => match put1 b d k z st with
      | some s => .ok D.non s
      | none => .no) with
  | .ok _ s => .nx env s
  | .er x s => .er x env s
  | .no => .no

/-! ### walks -/
def intsFrom (a : Int) (step : Int) : Nat → List D
  | 0 => []
  | n + 1 => .int a :: intsFrom (a + step) step n
def wRange1 : Ar → Wx := fun f b env st => match f b env st with
  | .ok [.int n] s => if (rg n && lim n.toNat) = true then .ok (.sn (intsFrom 0 1 n.toNat)) s else .no
  | .er x s => .er x s
  | _ => .no
def wRange2 : Ar → Wx := fun f b env st => match f b env st with
  | .ok [.int a, .int n] s => if (rg a && rg n && lim (n - a).toNat) = true then .ok (.sn (intsFrom a 1 (n - a).toNat)) s else .no
  | .er x s => .er x s
  | _ => .no
def wRange3 : Ar → Wx := fun f b env st => match f b env st with
  | .ok [.int a, .int n, .int k] s => if (decide (k = -1) && rg a && rg n && lim (a - n).toNat) = true then .ok (.sn (intsFrom a (-1) (a - n).toNat)) s else .no
  | .er x s => .er x s
  | _ => .no
def wSeq : Ex → Wx := fun f b env st => match f b env st with
  | .ok (.tup ds) s => .ok (.sn ds) s
  | .ok (.ref n) s => match s.list n with
    | some _ => .ok (.lv fun i st => match st.list n with
      | some ds => some ds[i]?
      | none => none) s
    | none => .no
  | .er x s => .er x s
  | _ => .no
def enumD : Nat → List D → List D
  | _, [] => []
  | i, d :: r => .tup [.int i, d] :: enumD (i + 1) r
def wEnum : Ar → Wx := fun f b env st => match f b env st with
  | .ok [.tup ds] s => .ok (.sn (enumD 0 ds)) s
  | .ok [.ref n] s => match s.list n with
    | some _ => .ok (.lv fun i st => match st.list n with
      | some ds => some (match ds[i]? with
        | some d => some (.tup [.int i, d])
        | none => none)
      | none => none) s
    | none => .no
  | .er x s => .er x s
  | _ => .no
def zipD : List D → List D → List D
  | d :: r, e :: q => .tup [d, e] :: zipD r q
  | _, _ => []
def wZip : Ar → Wx := fun f b env st => match f b env st with
  | .ok [.tup xs, .tup ys] s => .ok (.sn (zipD xs ys)) s
  | .ok [.ref n, .ref k] s => match s.list n, s.list k with
    | some _, some _ => .ok (.lv fun i st => match st.list n, st.list k with
      | some xs, some ys => some (match xs[i]?, ys[i]? with
        | some x, some y => some (.tup [x, y])
        | _, _ => none)
      | _, _ => none) s
    | _, _ => .no
  | .er x s => .er x s
  | _ => .no

/-! ### exceptions -/
/-- raise C(word) -/
def sRaise (c : Nat) (f : Ex) : Stm := fun b env st => match f b env st with
  | .ok d s => .er ⟨c, some d⟩ env s
  | .er x s => .er x env s
  | .no => .no
/-- try f except classes: g; the exception's word in slot i -/
def sTry (cs : List Nat) (i : Option Nat) (f g : Stm) : Stm := fun b env st => match f b env st with
  | .er x e s => if cs.contains x.cls = true then match i with
      | none => g b e s
      | some i => match x.word with
        | some d => match g b (e.set i (some d)) s with
          | .nx e s => .nx (e.set i none) s
          | r => r
        | none => .no
    else .er x e s
  | r => r
end DL
end S_DLo
section S_DLw
set_option Elab.async false
set_option linter.all false
set_option maxRecDepth 100000
set_option autoImplicit false
namespace DL
open PySem PySem.Spec PyProof.Rows L2

/-! ### walks: range -/
theorem intsFrom_get (a k : Int) : ∀ (n i : Nat), (intsFrom a k n)[i]? = if i < n then some (.int (a + i * k)) else none := by
  intro n
  induction n generalizing a with
  | zero => intro i; rfl
  | succ n ih =>
    intro i
    unfold intsFrom
    cases i with
    | zero =>
      rw [List.getElem?_cons_zero, if_pos (Nat.succ_pos _)]
      simp
    | succ i =>
      rw [List.getElem?_cons_succ, ih]
      by_cases h : i < n
      · rw [if_pos h, if_pos (Nat.succ_lt_succ h)]
        have e : a + k + (i : Int) * k = a + ((i + 1 : Nat) : Int) * k := by
          rw [Int.natCast_succ, Int.add_mul, Int.one_mul]
          omega
        rw [e]
      · rw [if_neg h, if_neg (fun z => h (Nat.lt_of_succ_lt_succ z))]
section
variable {w : World} {K : PySem.W.Frag} {m : Mp} {H : Hp}
theorem wk_range {lo c : Int} {n : Nat} {J : It} (hJ : J = ⟨fun i _ => i < n, fun i H x H' => H' = H ∧ x = .int (lo + i * c), fun i _ => n ≤ i⟩) : WkOk w K J (Wk.sn (intsFrom lo c n)).it fun _ _ => True := by
  subst hJ
  refine ⟨fun _ _ _ _ _ h => h, fun m H st i d _ R e => ?_, fun m H st i _ R e => ?_, fun m H st b i d x H' _ R e y => ?_⟩
  · have e := Option.some.inj e
    rw [intsFrom_get] at e
    split at e
    · assumption
    · cases e
  · have e := Option.some.inj e
    rw [intsFrom_get] at e
    split at e
    · cases e
    · show n ≤ i
      omega
  · have e := Option.some.inj e
    rw [intsFrom_get] at e
    split at e
    · obtain ⟨rfl, rfl⟩ := y
      cases e
      exact ⟨.refl R, .int _⟩
    · cases e
theorem rg_ok {i : Int} (h : rg i = true) : -(2 ^ 62) ≤ i ∧ i < 2 ^ 62 := by
  unfold rg at h
  rw [Nat.blt_eq] at h
  omega
theorem wk_list {a : Addr} {n : Nat} : WkOk w K (Itl K a) (fun i st => match st.list n with
    | some ds => some ds[i]?
    | none => none) fun m _ => m n = some a := by
  refine ⟨fun _ _ _ _ x h => x.mm _ _ h, fun m H st i d hm R e => ?_, fun m H st i hm R e => ?_, fun m H st b i d x H' hm R e y => ?_⟩
  · split at e
    · rename_i ds hd
      obtain ⟨vs, h1, h2⟩ := R.list hm hd
      obtain ⟨v, h3, _⟩ := h2.get (i := i) (Option.some.inj e)
      exact ⟨vs, v, h1, h3⟩
    · cases e
  · split at e
    · rename_i ds hd
      obtain ⟨vs, h1, h2⟩ := R.list hm hd
      have e := Option.some.inj e
      rw [List.getElem?_eq_none_iff] at e
      exact ⟨vs, h1, by rw [← h2.length]; exact e⟩
    · cases e
  · split at e
    · rename_i ds hd
      obtain ⟨vs, h1, h2⟩ := R.list hm hd
      obtain ⟨v, h3, h4⟩ := h2.get (i := i) (Option.some.inj e)
      obtain ⟨rfl, y⟩ := y
      have := y vs h1
      rw [h3] at this
      cases this
      exact ⟨.refl R, h4⟩
    · cases e
theorem wk_tup {a : Addr} {ds : List D} : WkOk w K (Itt K a) (Wk.sn ds).it fun m H => ∃ vs, SqT K H a vs ∧ RepL K m H ds vs := by
  refine ⟨fun _ _ _ _ x ⟨vs, h, r⟩ => ⟨vs, x.sqT h, r.mono x⟩, fun m H st i d hm R e => ?_, fun m H st i hm R e => ?_, fun m H st b i d x H' hm R e y => ?_⟩
  · obtain ⟨vs, h1, h2⟩ := hm
    obtain ⟨v, h3, _⟩ := h2.get (i := i) (Option.some.inj e)
    exact ⟨vs, v, h1, h3⟩
  · obtain ⟨vs, h1, h2⟩ := hm
    have e := Option.some.inj e
    rw [List.getElem?_eq_none_iff] at e
    exact ⟨vs, h1, by rw [← h2.length]; exact e⟩
  · obtain ⟨vs, h1, h2⟩ := hm
    obtain ⟨v, h3, h4⟩ := h2.get (i := i) (Option.some.inj e)
    obtain ⟨rfl, y⟩ := y
    have := y vs h1
    rw [h3] at this
    cases this
    exact ⟨.refl R, h4⟩
end
section
variable {X : Cx} {cl : Cls} {W : WX} {tg : Expr}
/-- a list or a tuple is walked -/
def iSeq (K : PySem.W.Frag) (tl : TE) : TI := fun σ H R => tl σ H fun x H1 => ∃ a, x = .ref a ∧ (((∃ xs, SqL K H1 a xs) ∧ R (Itl K a) H1) ∨ ((∃ xs, SqT K H1 a xs) ∧ R (Itt K a) H1))
theorem pi_seq {l : Expr} {tl : TE} (hl : PE X l tl) : PI X tg l (iSeq X.K tl) := by
  refine ⟨fun pins s σ H R I h => ?_⟩
  refine thn (hl.run pins s σ H _ I h) fun v s1 z => ?_
  obtain ⟨x, H1, I1, r1, a, e, q⟩ := z
  subst e
  cases r1
  rcases q with ⟨⟨xs, hq⟩, q⟩ | ⟨⟨xs, hq⟩, q⟩
  · obtain ⟨its, rv, p, hz⟩ := I1.list hq
    refine wpAny_pyIter_list p.isList ?_
    refine ⟨s1.heap.objs.size, [s1.heap.objs.size], _, _, H1, rfl, I1.kept (t' := s1.toks) fun b o e => Heap.get?_push_of_some _ e, turn_list a _, ⟨_, Heap.get?_push_size _ rfl, rfl, rfl⟩, fun b hb => ?_, q⟩
    cases List.mem_singleton.mp hb
    exact I1.fpOk (Nat.le_refl _) (I1.hok.fresh (Nat.le_refl _))
  · obtain ⟨its, rv, p, hz⟩ := I1.tuple hq
    refine wpAny_pyIter_tuple (show s1.heap.IsTuple a its.toArray from p) ?_
    refine ⟨s1.heap.objs.size, [s1.heap.objs.size], _, _, H1, rfl, I1.kept (t' := s1.toks) fun b o e => Heap.get?_push_of_some _ e, turn_tuple a _, ⟨_, Heap.get?_push_size _ rfl, rfl, rfl⟩, fun b hb => ?_, q⟩
    cases List.mem_singleton.mp hb
    exact I1.fpOk (Nat.le_refl _) (I1.hok.fresh (Nat.le_refl _))
theorem pdi_seq {e : Expr} {f : Ex} (he : PD X cl W e f) : PDI X cl W tg e (wSeq f) := (pi_seq he).imp fun σ H Q z => by
  obtain ⟨m, b, st, env, p, h⟩ := z
  refine ⟨m, b, st, env, p, ?_⟩
  unfold wSeq at h
  cases e1 : f b env st with
  | er x s => rw [e1] at h; exact h
  | no => rw [e1] at h; exact h
  | ok d s =>
    rw [e1] at h
    intro x H1 m1 t1 r1
    cases d with
    | tup ds =>
      cases r1 with
      | tup hs hl => exact ⟨_, rfl, .inr ⟨⟨_, hs⟩, h _ H1 m1 _ t1 ⟨_, hs, hl⟩ wk_tup⟩⟩
    | ref n =>
      cases r1 with
      | ref ha =>
        dsimp only at h
        split at h
        · rename_i ds hd
          obtain ⟨vs, hq, _⟩ := t1.rep.list ha hd
          exact ⟨_, rfl, .inl ⟨⟨vs, hq⟩, h _ H1 m1 _ t1 ha wk_list⟩⟩
        · exact h.elim
    | _ => exact h.elim
/-- one, two, three given values, else nothing is promised -/
theorem arg1 {m : Mp} {H : Hp} {st : Sto} {α : Type} {ds : List D} {xs : List V} (r : RepL X.K m H ds xs) {P : Rs α → Prop} (hn : ¬ P .no) {f : D → Rs α} (h : P (match ds with
    | [d] => f d
    | _ => .no)) : ∃ d x, ds = [d] ∧ xs = [x] ∧ Rep X.K m H d x ∧ P (f d) := by
  cases r with
  | nil => exact (hn h).elim
  | cons r1 r2 =>
    cases r2 with
    | nil => exact ⟨_, _, rfl, rfl, r1, h⟩
    | cons _ _ => exact (hn h).elim
theorem arg2 {m : Mp} {H : Hp} {st : Sto} {α : Type} {ds : List D} {xs : List V} (r : RepL X.K m H ds xs) {P : Rs α → Prop} (hn : ¬ P .no) {f : D → D → Rs α} (h : P (match ds with
    | [d, e] => f d e
    | _ => .no)) : ∃ d e x y, ds = [d, e] ∧ xs = [x, y] ∧ Rep X.K m H d x ∧ Rep X.K m H e y ∧ P (f d e) := by
  cases r with
  | nil => exact (hn h).elim
  | cons r1 r2 =>
    cases r2 with
    | nil => exact (hn h).elim
    | cons r2 r3 =>
      cases r3 with
      | nil => exact ⟨_, _, _, _, rfl, rfl, r1, r2, h⟩
      | cons _ _ => exact (hn h).elim
theorem rep_int {m : Mp} {H : Hp} {i : Int} {x : V} (r : Rep X.K m H (.int i) x) : x = .int i := by
  cases r
  rfl
theorem pdi_range1 {a : Expr} {fa : Ar} {p pos : Pos} (hg : Gl X "range") (hm : X.mg "range" = none) (ha : PDA X cl W [a] fa) (hs : starEach [a] X.env = [(false, eval a X.env)] := by rfl) : PDI X cl W tg (.Call (.Name "range" p) [a] [] pos) (wRange1 fa) := (pi_range1 hg hm ha hs).imp fun σ H Q z => by
  obtain ⟨m, b, st, env, p, h⟩ := z
  refine ⟨m, b, st, env, p, ?_⟩
  unfold wRange1 at h
  cases e1 : fa b env st with
  | er x s => rw [e1] at h; exact h
  | no => rw [e1] at h; exact h
  | ok ds s =>
    rw [e1] at h
    intro x H1 m1 t1 r1
    split at h
    · rename_i n he
      cases he
      cases r1 with
      | cons r1 r2 =>
        cases r2
        cases r1
        split at h
        · rename_i hc
          rw [Bool.and_eq_true] at hc
          exact ⟨_, rfl, (rg_ok hc.1).1, (rg_ok hc.1).2, h _ H1 m1 (fun _ _ => True) t1 trivial (wk_range (by unfold Itr; simp only [Int.mul_one]))⟩
        · exact h.elim
    · rename_i he
      cases he
    · exact h.elim
theorem pdi_range2 {a c : Expr} {fa : Ar} {p pos : Pos} (hg : Gl X "range") (hm : X.mg "range" = none) (ha : PDA X cl W [a, c] fa) (hs : starEach [a, c] X.env = [(false, eval a X.env), (false, eval c X.env)] := by rfl) (hs2 : starEach [c] X.env = [(false, eval c X.env)] := by rfl) : PDI X cl W tg (.Call (.Name "range" p) [a, c] [] pos) (wRange2 fa) := (pi_range2 hg hm ha hs hs2).imp fun σ H Q z => by
  obtain ⟨m, b, st, env, p, h⟩ := z
  refine ⟨m, b, st, env, p, ?_⟩
  unfold wRange2 at h
  cases e1 : fa b env st with
  | er x s => rw [e1] at h; exact h
  | no => rw [e1] at h; exact h
  | ok ds s =>
    rw [e1] at h
    intro x H1 m1 t1 r1
    split at h
    · rename_i i n he
      cases he
      cases r1 with
      | cons r1 r2 =>
        cases r2 with
        | cons r2 r3 =>
          cases r3
          cases r1
          cases r2
          split at h
          · rename_i hc
            rw [Bool.and_eq_true, Bool.and_eq_true] at hc
            exact ⟨_, _, rfl, ⟨(rg_ok hc.1.1).1, (rg_ok hc.1.1).2, (rg_ok hc.1.2).1, (rg_ok hc.1.2).2⟩, h _ H1 m1 (fun _ _ => True) t1 trivial (wk_range (by unfold Itr; simp only [Int.mul_one]))⟩
          · exact h.elim
    · rename_i he
      cases he
    · exact h.elim
theorem pdi_range3 {a c e : Expr} {fa : Ar} {p pos : Pos} (hg : Gl X "range") (hm : X.mg "range" = none) (ha : PDA X cl W [a, c, e] fa)
    (hs : starEach [a, c, e] X.env = (false, eval a X.env) :: starEach [c, e] X.env := by rfl) (hpl : (backTo pos (starEach [c, e] X.env)).any (·.1) = false := by rfl) : PDI X cl W tg (.Call (.Name "range" p) [a, c, e] [] pos) (wRange3 fa) := (pi_range3 hg hm ha hs hpl).imp fun σ H Q z => by
  obtain ⟨m, b, st, env, p, h⟩ := z
  refine ⟨m, b, st, env, p, ?_⟩
  unfold wRange3 at h
  cases e1 : fa b env st with
  | er x s => rw [e1] at h; exact h
  | no => rw [e1] at h; exact h
  | ok ds s =>
    rw [e1] at h
    intro x H1 m1 t1 r1
    split at h
    · rename_i i n k he
      cases he
      cases r1 with
      | cons r1 r2 =>
        cases r2 with
        | cons r2 r3 =>
          cases r3 with
          | cons r3 r4 =>
            cases r4
            cases r1
            cases r2
            cases r3
            split at h
            · rename_i hc
              rw [Bool.and_eq_true, Bool.and_eq_true, Bool.and_eq_true] at hc
              have hk := of_decide_eq_true hc.1.1.1
              subst hk
              exact ⟨_, _, _, _, rfl, .neg (rg_ok hc.1.1.2).1 (rg_ok hc.1.1.2).2 (rg_ok hc.1.2).1 (rg_ok hc.1.2).2, h _ H1 m1 (fun _ _ => True) t1 trivial (wk_range rfl)⟩
            · exact h.elim
    · rename_i he
      cases he
    · exact h.elim

/-! ### enumerate -/
theorem meets_enum_tup (l : Addr) (items : Array Value) :
    Meets (Builtin.«enumerate.__new__» ⟨[.type "enumerate", .ref l], []⟩) (fun _ R s => s.heap.IsTuple l items ∧
      R (.ok (.ret (.ref (s.heap.push { cls := .type "tuple_iterator", data := .fields #[.ref l, .int 0 0] }).objs.size)))
        { s with heap := (s.heap.push { cls := .type "tuple_iterator", data := .fields #[.ref l, .int 0 0] }).push { cls := .type "enumerate", data := .fields #[.none, .bool false, .ref s.heap.objs.size, rawInt 0, .none, .none] } }) :=
  .of_wp fun prog w A R s h => by
    obtain ⟨hp, g, d, tk, os⟩ := s; obtain ⟨hl, h⟩ := h
    have hsub := sub_enumerate
    have q1 : ∀ {A' : Around} {E : Value → Shared → Prop} {Q : Value → Shared → Prop}, Q (.ref hp.objs.size) ⟨hp.push { cls := .type "tuple_iterator", data := .fields #[.ref l, .int 0 0] }, g, d, tk, os⟩ → wpAny (model prog w) A' (pyIter (.ref l)) Q E ⟨hp, g, d, tk, os⟩ := fun q => wpAny_pyIter_tuple hl q
    wp_walk using q1
    refine wpAny_stack_any fun stk => wpAny_pure ?_
    split
    · rename_i c _ _ _ _ _
      cases (c == Value.type "enumerate") <;> (wp_walk using q1; exact ⟨_, rfl, h⟩)
    · wp_walk using q1
      exact ⟨_, rfl, h⟩
theorem call_enum_tup {prog : Program} {w : World} {A : Around} {E : Value → Shared → Prop} {s : Shared} {l : Addr} {items : Array Value} {Q : Value → Shared → Prop} (hL : s.heap.IsTuple l items)
    (h : ∀ h', IsEnum h' (s.heap.objs.size + 1) s.heap.objs.size 0 .none → h'.IsTupleIter s.heap.objs.size l 0 → h'.objs.size = s.heap.objs.size + 2 →
      (∀ b o, s.heap.get? b = some o → h'.get? b = some o) → Q (.ref (s.heap.objs.size + 1)) { s with heap := h' }) :
    wpAny (model prog w) A (call (.type "enumerate") [.ref l]) Q E s := by
  refine callType_new F.called_enumerate (by decide) (F.typeCall_enumerate_1 _) (F.newCall_enumerate_1 _) (fun obj => F.args_object_init_2 obj _) F.entry_enumerate_new (meets_enum_tup l items) ⟨hL, ?_⟩
  have hz : (s.heap.push { cls := .type "tuple_iterator", data := .fields #[.ref l, .int 0 0] }).objs.size = s.heap.objs.size + 1 := Heap.size_push ..
  show _ ∧ _
  rw [hz]
  have he := Heap.get?_push_size (s.heap.push { cls := .type "tuple_iterator", data := .fields #[.ref l, .int 0 0] }) (o := { cls := .type "enumerate", data := .fields #[.none, .bool false, .ref s.heap.objs.size, rawInt 0, .none, .none] }) rfl
  rw [hz] at he
  exact ⟨⟨_, he, rfl⟩, h _ he ⟨_, Heap.get?_push_of_some _ (Heap.get?_push_size _ rfl), rfl, rfl⟩ (by rw [Heap.size_push, hz]) fun b o x => Heap.get?_push_of_some _ (Heap.get?_push_of_some _ x)⟩
/-- the tuple at a, each item in a new pair -/
def IteT (K : PySem.W.Frag) (a : Addr) : It :=
  ⟨fun i H => ∃ (xs : List V) (x : V), SqT K H a xs ∧ xs[i]? = some x, fun i H v H' => ∃ T x, v = .ref T ∧ H T = none ∧ H' = upd H T (.tup [.int (i : Nat), x]) ∧ ∀ xs, SqT K H a xs → xs[i]? = some x, fun i H => ∃ xs : List V, SqT K H a xs ∧ xs.length ≤ i⟩
theorem turn_enumT {P : Program} {w : World} {K : PySem.W.Frag} {elts : List Expr} {kk : Nat} {tpos : Pos} (a e it : Addr) (items : Array Value) :
    Turn P w K (.Tuple elts kk tpos) (IteT K a) [e, it] e (fun i h => (∃ old, IsEnum h e it ((i : Nat) : Int) old) ∧ h.IsTupleIter it a i ∧ e ≠ it) where
  mem := List.mem_cons_self
  obj := fun i h ⟨⟨old, he⟩, ⟨o, ho, hc, hd⟩, _⟩ b hb => by
    rcases List.mem_cons.mp hb with z | z
    · rw [z]; exact ⟨_, he, fun v q => nomatch q⟩
    · rw [List.mem_singleton.mp z]; exact ⟨o, ho, fun v q => by rw [hd] at q; cases q⟩
  keep := fun i h h' ⟨⟨old, he⟩, hi, hne⟩ k => ⟨⟨old, k e (by simp) _ he⟩, hi.at fun o q => k it (by simp) o q, hne⟩
  item := by
    rintro X rfl rfl rfl hc i pins s σ H E I hf ⟨⟨old, he⟩, hit, hne⟩ ⟨xs, x, hq, hx⟩
    obtain ⟨its, rv, p, hz⟩ := I.tuple hq
    obtain ⟨u, hu, ru⟩ := rv.get hx
    have hel : e < s.heap.objs.size := Heap.lt_size he
    have hil : it < s.heap.objs.size := by obtain ⟨_, q, _⟩ := hit; exact Heap.lt_size q
    have hai : a ≠ it := fun z => by
      obtain ⟨o1, h1, c1, _⟩ := p
      obtain ⟨o2, h2, c2, _⟩ := hit
      rw [z, h2] at h1
      cases h1
      rw [c1] at c2
      exact absurd c2 (by decide)
    have hae : a ≠ e := fun z => by
      obtain ⟨o1, h1, c1, _⟩ := p
      have h2 : s.heap.get? e = _ := he
      rw [z, h2] at h1
      cases h1
      have c1 : Value.type "enumerate" = Value.type "tuple" := c1
      exact absurd c1 (by decide)
    have Dr := Draws.tuple (prog := X.prog) (w := X.w) (A := X.A.in1) (I.ok.hd hc) it a hai its.toArray
    refine wpAny_pyNext_enum_itemD Dr he ⟨hit, p⟩ (by simpa using (List.getElem?_eq_some_iff.mp hu).1) hne (by simp; exact ⟨hne, Ne.symm hae⟩) fun y h' tk hy ho hit' hT hsz hk => ?_
    have hy' : u = y := by
      have : its.toArray[i]? = some y := hy
      rw [List.getElem?_toArray, hu] at this
      exact Option.some.inj this
    subst hy'
    refine ⟨_, rfl, wpAny_letOwnedTupleGo_enum (s := { s with heap := h', toks := tk + 1 }) ho fun h'' he' sb => ?_⟩
    have hT2 : h''.get? s.heap.objs.size = some { cls := .type "tuple", data := .seq #[.int i tk, u] } := (sb.2 _ (Nat.ne_of_gt hel)).trans hT
    have new : ObjOk X.prog X.w (upd H s.heap.objs.size (.tup [.int (i : Nat), x])) h'' s.heap.objs.size (.tup [.int (i : Nat), x]) :=
      ⟨by show 2 ≤ sizeLine; decide, [.int i tk, u], .cons ⟨_, rfl⟩ (.cons ru .nil), ⟨_, hT2, rfl, _, rfl⟩⟩
    have I1 : Inv X pins σ (upd H s.heap.objs.size (.tup [.int (i : Nat), x])) { s with heap := h'', toks := tk + 1 } :=
      I.turnedNew (ch := [e, it]) (fun b ob hb q => (sb.2 b (fun z => hb (by rw [z]; exact List.mem_cons_self))).trans (hk b ob (fun z => hb (by simp [z])) (fun z => hb (by simp [z])) q)) hf (Nat.le_refl _) new
    refine ⟨.ref s.heap.objs.size, _, I1, rfl, ⟨_, x, rfl, I.hok.fresh (Nat.le_refl _), rfl, fun ys hy => by rw [I.tuple_inj hy hq]; exact hx⟩, ⟨⟨u, ?_⟩, hit'.1.at fun o q => (sb.2 it (Ne.symm hne)).trans q, hne⟩, fun b hb => ?_⟩
    · have e1 : ((i + 1 : Nat) : Int) = (i : Int) + 1 := by omega
      rw [e1]
      exact he'
    · rw [upd_ne (Nat.ne_of_lt (by
        rcases List.mem_cons.mp hb with z | z
        · rw [z]; exact hel
        · rw [List.mem_singleton.mp z]; exact hil))]
      exact (hf b hb).1
  done := by
    rintro X rfl rfl rfl hc i pins s σ H E I hf ⟨⟨old, he⟩, hit, hne⟩ ⟨xs, hq, hx⟩
    obtain ⟨its, rv, p, hz⟩ := I.tuple hq
    obtain ⟨f0, f1, f2, f3, f4, f5⟩ := hf it (by simp)
    have hl := rv.length
    have hai : a ≠ it := fun z => by
      obtain ⟨o1, h1, c1, _⟩ := p
      obtain ⟨o2, h2, c2, _⟩ := hit
      rw [z, h2] at h1
      cases h1
      rw [c1] at c2
      exact absurd c2 (by decide)
    have Dr : Draws X.prog X.w X.A.in1 it [it, a] i (fun _ _ => True) (fun k h => k = i ∧ h.IsTupleIter it a i ∧ h.IsTuple a its.toArray) :=
      ⟨fun _ _ st => let ⟨o, ho, _⟩ := st.2.1; ⟨o, ho⟩, fun _ _ _ st hk => ⟨st.1, st.2.1.at fun o e => hk it (by simp) o e, st.2.2.at fun o e => hk a (by simp) o e⟩,
       fun k s Q E hi st _ => absurd st.1 (Nat.ne_of_lt hi), fun s Q E st hE => wpAny_nextOf_tuple_end (I.ok.hd hc) st.2.1 st.2.2 (by simp; omega) hE⟩
    exact wpAny_pyNext_enum_endD Dr he ⟨rfl, hit, p⟩ fun h' eb => ⟨rfl, I.turned (t' := s.toks) (fun b o hb q => eb b o hb q) f0 f1 f3 f4 f5⟩
  self := fun A i s Q E ⟨⟨_, he⟩, _⟩ h => wpAny_pyIter_enum he h
def iEnumA (K : PySem.W.Frag) (ta : TA) : TI := fun σ H R => ta σ H fun vs H1 => ∃ a xs, vs = [.ref a] ∧ ((SqL K H1 a xs ∧ R (Ite K a) H1) ∨ (SqT K H1 a xs ∧ R (IteT K a) H1))
theorem pi_enumA {e : Expr} {ta : TA} {p pos tpos : Pos} {elts : List Expr} {kk : Nat} (hg : Gl X "enumerate") (hm : X.mg "enumerate" = none) (ha : PA X [e] ta) (hs : starEach [e] X.env = [(false, eval e X.env)] := by rfl) :
    PI X (.Tuple elts kk tpos) (.Call (.Name "enumerate" p) [e] [] pos) (iEnumA X.K ta) := by
  refine ⟨fun pins s σ H R I h => ?_⟩
  refine Call_ (ld_blt I hg hm boot_enumerate (PyProof.Rows.callWith_type1 (thn (ha.run pos pins s σ H _ I h) fun us s1 z => ?_) hs rfl))
  obtain ⟨vs, H1, I1, r1, a, xs, ex, q⟩ := z
  subst ex
  cases r1 with
  | cons r rr =>
    cases rr
    cases r
    have fp : ∀ c, c ∈ [s1.heap.objs.size + 1, s1.heap.objs.size] → FpOk X pins H1 c := fun c hc => by
      have hle : s1.heap.objs.size ≤ c := by
        rcases List.mem_cons.mp hc with z | z
        · rw [z]; exact Nat.le_succ _
        · rw [List.mem_singleton.mp z]; exact Nat.le_refl _
      exact I1.fpOk hle (I1.hok.fresh hle)
    rcases q with ⟨hq, q⟩ | ⟨hq, q⟩
    · obtain ⟨its, rv, p', hz⟩ := I1.list hq
      refine call_enumerate_list p'.isList fun h' he hit hsz hk => wpAny_pyIter_enum he ?_
      exact ⟨s1.heap.objs.size + 1, [s1.heap.objs.size + 1, s1.heap.objs.size], _, _, H1, rfl, I1.kept (t' := s1.toks) hk, turn_enum a (s1.heap.objs.size + 1) s1.heap.objs.size, ⟨⟨.none, he⟩, hit, Nat.succ_ne_self _⟩, fp, q⟩
    · obtain ⟨its, rv, p', hz⟩ := I1.tuple hq
      refine call_enum_tup (show s1.heap.IsTuple a its.toArray from p') fun h' he hit hsz hk => wpAny_pyIter_enum he ?_
      exact ⟨s1.heap.objs.size + 1, [s1.heap.objs.size + 1, s1.heap.objs.size], _, _, H1, rfl, I1.kept (t' := s1.toks) hk, turn_enumT a (s1.heap.objs.size + 1) s1.heap.objs.size #[], ⟨⟨.none, he⟩, hit, Nat.succ_ne_self _⟩, fp, q⟩
theorem enumD_get : ∀ (ds : List D) (k i : Nat), (enumD k ds)[i]? = match ds[i]? with
    | some d => some (.tup [.int ((k + i : Nat) : Int), d])
    | none => none
  | [], _, i => rfl
  | d :: r, k, 0 => rfl
  | d :: r, k, i + 1 => by
    show (enumD (k + 1) r)[i]? = _
    rw [enumD_get r (k + 1) i, List.getElem?_cons_succ]
    have e : k + 1 + i = k + (i + 1) := by omega
    rw [e]
theorem wk_enumT {w : World} {K : PySem.W.Frag} {a : Addr} {ds : List D} : WkOk w K (IteT K a) (Wk.sn (enumD 0 ds)).it fun m H => ∃ vs, SqT K H a vs ∧ RepL K m H ds vs := by
  refine ⟨fun _ _ _ _ x ⟨vs, h, r⟩ => ⟨vs, x.sqT h, r.mono x⟩, fun m H st i d hm R e => ?_, fun m H st i hm R e => ?_, fun m H st b i d x H' hm R e y => ?_⟩
  · obtain ⟨vs, h1, h2⟩ := hm
    have e := Option.some.inj e
    rw [enumD_get] at e
    split at e
    · rename_i d' hd
      obtain ⟨v, h3, _⟩ := h2.get (i := i) hd
      exact ⟨vs, v, h1, h3⟩
    · cases e
  · obtain ⟨vs, h1, h2⟩ := hm
    have e := Option.some.inj e
    rw [enumD_get] at e
    split at e
    · cases e
    · rename_i hd
      rw [List.getElem?_eq_none_iff] at hd
      exact ⟨vs, h1, by rw [← h2.length]; exact hd⟩
  · obtain ⟨vs, h1, h2⟩ := hm
    have e := Option.some.inj e
    rw [enumD_get] at e
    split at e
    · rename_i d' hd
      cases e
      obtain ⟨v, h3, h4⟩ := h2.get (i := i) hd
      obtain ⟨T, x', rfl, hT, rfl, y⟩ := y
      have y := y vs h1
      rw [h3] at y
      cases y
      have t := To.tup (vs := [.int (i : Nat), v]) (b := b) R hT
      rw [Nat.zero_add]
      exact ⟨t, .tup (.inl (.inl upd_same)) (.cons (.int _) (.cons (h4.mono t.ext) .nil))⟩
    · cases e
theorem wk_enumL {w : World} {K : PySem.W.Frag} {a : Addr} {n : Nat} : WkOk w K (Ite K a) (fun i st => match st.list n with
    | some ds => some (match ds[i]? with
      | some d => some (.tup [.int i, d])
      | none => none)
    | none => none) fun m _ => m n = some a := by
  refine ⟨fun _ _ _ _ x h => x.mm _ _ h, fun m H st i d hm R e => ?_, fun m H st i hm R e => ?_, fun m H st b i d x H' hm R e y => ?_⟩
  · split at e
    · rename_i ds hd
      obtain ⟨vs, h1, h2⟩ := R.list hm hd
      have e := Option.some.inj e
      split at e
      · rename_i d' hd'
        obtain ⟨v, h3, _⟩ := h2.get (i := i) hd'
        exact ⟨vs, v, h1, h3⟩
      · cases e
    · cases e
  · split at e
    · rename_i ds hd
      obtain ⟨vs, h1, h2⟩ := R.list hm hd
      have e := Option.some.inj e
      split at e
      · cases e
      · rename_i hd'
        rw [List.getElem?_eq_none_iff] at hd'
        exact ⟨vs, h1, by rw [← h2.length]; exact hd'⟩
    · cases e
  · split at e
    · rename_i ds hd
      obtain ⟨vs, h1, h2⟩ := R.list hm hd
      have e := Option.some.inj e
      split at e
      · rename_i d' hd'
        cases e
        obtain ⟨v, h3, h4⟩ := h2.get (i := i) hd'
        obtain ⟨T, x', rfl, hT, rfl, y⟩ := y
        have y := y vs h1
        rw [h3] at y
        cases y
        have t := To.tup (vs := [.int (i : Nat), v]) (b := b) R hT
        exact ⟨t, .tup (.inl (.inl upd_same)) (.cons (.int _) (.cons (h4.mono t.ext) .nil))⟩
      · cases e
    · cases e
theorem pdi_enum {e : Expr} {f : Ar} {p pos tpos : Pos} {elts : List Expr} {kk : Nat} (hg : Gl X "enumerate") (hm : X.mg "enumerate" = none) (ha : PDA X cl W [e] f) (hs : starEach [e] X.env = [(false, eval e X.env)] := by rfl) :
    PDI X cl W (.Tuple elts kk tpos) (.Call (.Name "enumerate" p) [e] [] pos) (wEnum f) := (pi_enumA hg hm ha hs).imp fun σ H Q z => by
  obtain ⟨m, b, st, env, p, h⟩ := z
  refine ⟨m, b, st, env, p, ?_⟩
  unfold wEnum at h
  cases e1 : f b env st with
  | er x s => rw [e1] at h; exact h
  | no => rw [e1] at h; exact h
  | ok ds s =>
    rw [e1] at h
    intro x H1 m1 t1 r1
    split at h
    · rename_i he
      cases he
      cases r1 with
      | cons r1 r2 =>
        cases r2
        cases r1 with
        | tup hs hl => exact ⟨_, _, rfl, .inr ⟨hs, h _ H1 m1 _ t1 ⟨_, hs, hl⟩ wk_enumT⟩⟩
    · rename_i n he
      cases he
      cases r1 with
      | cons r1 r2 =>
        cases r2
        cases r1 with
        | ref ha =>
          split at h
          · rename_i ds hd
            obtain ⟨vs, hq, _⟩ := t1.rep.list ha hd
            exact ⟨_, _, rfl, .inl ⟨hq, h _ H1 m1 _ t1 ha wk_enumL⟩⟩
          · exact h.elim
    · rename_i he
      cases he
    · exact h.elim

/-! ### zip -/
theorem zipD_get : ∀ (xs ys : List D) (i : Nat), (zipD xs ys)[i]? = match xs[i]?, ys[i]? with
    | some x, some y => some (.tup [x, y])
    | _, _ => none
  | [], _, i => rfl
  | _ :: _, [], i => by
    unfold zipD
    simp
  | x :: xs, y :: ys, 0 => rfl
  | x :: xs, y :: ys, i + 1 => by
    show (zipD xs ys)[i]? = _
    rw [zipD_get xs ys i, List.getElem?_cons_succ, List.getElem?_cons_succ]
theorem wk_zipT {w : World} {K : PySem.W.Frag} {a c : Addr} {ds es : List D} : WkOk w K (RZ.ItzT K a c) (Wk.sn (zipD ds es)).it fun m H => (∃ vs, SqT K H a vs ∧ RepL K m H ds vs) ∧ ∃ vs, SqT K H c vs ∧ RepL K m H es vs := by
  refine ⟨fun _ _ _ _ x ⟨⟨vs, h, r⟩, ⟨ws, h', r'⟩⟩ => ⟨⟨vs, x.sqT h, r.mono x⟩, ⟨ws, x.sqT h', r'.mono x⟩⟩, fun m H st i d hm R e => ?_, fun m H st i hm R e => ?_, fun m H st b i d x H' hm R e y => ?_⟩
  · obtain ⟨⟨vs, h1, h2⟩, ⟨ws, g1, g2⟩⟩ := hm
    have e := Option.some.inj e
    rw [zipD_get] at e
    split at e
    · rename_i x0 y0 hx hy
      obtain ⟨v, h3, _⟩ := h2.get (i := i) hx
      obtain ⟨v', h3', _⟩ := g2.get (i := i) hy
      exact ⟨vs, ws, v, v', h1, g1, h3, h3'⟩
    · cases e
  · obtain ⟨⟨vs, h1, h2⟩, ⟨ws, g1, g2⟩⟩ := hm
    have e := Option.some.inj e
    rw [zipD_get] at e
    refine ⟨vs, ws, h1, g1, ?_⟩
    rw [← h2.length, ← g2.length]
    by_cases q : ds.length ≤ i
    · exact .inl q
    · right
      rw [List.getElem?_eq_getElem (by omega)] at e
      by_cases q2 : es.length ≤ i
      · exact q2
      · rw [List.getElem?_eq_getElem (by omega)] at e
        cases e
  · obtain ⟨⟨vs, h1, h2⟩, ⟨ws, g1, g2⟩⟩ := hm
    have e := Option.some.inj e
    rw [zipD_get] at e
    split at e
    · rename_i x0 y0 hx hy
      cases e
      obtain ⟨v, h3, h4⟩ := h2.get (i := i) hx
      obtain ⟨v', h3', h4'⟩ := g2.get (i := i) hy
      obtain ⟨T, x', y', rfl, hT, rfl, q1, q2⟩ := y
      have q1 := q1 vs h1
      have q2 := q2 ws g1
      rw [h3] at q1
      rw [h3'] at q2
      cases q1
      cases q2
      have t := To.tup (vs := [v, v']) (b := b) R hT
      exact ⟨t, .tup (.inl (.inl upd_same)) (.cons (h4.mono t.ext) (.cons (h4'.mono t.ext) .nil))⟩
    · cases e
theorem wk_zipL {w : World} {K : PySem.W.Frag} {a c : Addr} {n k : Nat} : WkOk w K (Itz K a c) (fun i st => match st.list n, st.list k with
      | some xs, some ys => some (match xs[i]?, ys[i]? with
        | some x, some y => some (.tup [x, y])
        | _, _ => none)
      | _, _ => none) fun m _ => m n = some a ∧ m k = some c := by
  refine ⟨fun _ _ _ _ x h => ⟨x.mm _ _ h.1, x.mm _ _ h.2⟩, fun m H st i d hm R e => ?_, fun m H st i hm R e => ?_, fun m H st b i d x H' hm R e y => ?_⟩
  · split at e
    · rename_i xs ys hd hd'
      obtain ⟨vs, h1, h2⟩ := R.list hm.1 hd
      obtain ⟨ws, g1, g2⟩ := R.list hm.2 hd'
      have e := Option.some.inj e
      split at e
      · rename_i x0 y0 hx hy
        obtain ⟨v, h3, _⟩ := h2.get (i := i) hx
        obtain ⟨v', h3', _⟩ := g2.get (i := i) hy
        exact ⟨vs, ws, v, v', h1, g1, h3, h3'⟩
      · cases e
    · cases e
  · split at e
    · rename_i xs ys hd hd'
      obtain ⟨vs, h1, h2⟩ := R.list hm.1 hd
      obtain ⟨ws, g1, g2⟩ := R.list hm.2 hd'
      have e := Option.some.inj e
      refine ⟨vs, ws, h1, g1, ?_⟩
      rw [← h2.length, ← g2.length]
      by_cases q : xs.length ≤ i
      · exact .inl q
      · right
        rw [List.getElem?_eq_getElem (by omega)] at e
        by_cases q2 : ys.length ≤ i
        · exact q2
        · rw [List.getElem?_eq_getElem (by omega)] at e
          cases e
    · cases e
  · split at e
    · rename_i xs ys hd hd'
      obtain ⟨vs, h1, h2⟩ := R.list hm.1 hd
      obtain ⟨ws, g1, g2⟩ := R.list hm.2 hd'
      have e := Option.some.inj e
      split at e
      · rename_i x0 y0 hx hy
        cases e
        obtain ⟨v, h3, h4⟩ := h2.get (i := i) hx
        obtain ⟨v', h3', h4'⟩ := g2.get (i := i) hy
        obtain ⟨T, x', y', rfl, hT, rfl, q1, q2⟩ := y
        have q1 := q1 vs h1
        have q2 := q2 ws g1
        rw [h3] at q1
        rw [h3'] at q2
        cases q1
        cases q2
        have t := To.tup (vs := [v, v']) (b := b) R hT
        exact ⟨t, .tup (.inl (.inl upd_same)) (.cons (h4.mono t.ext) (.cons (h4'.mono t.ext) .nil))⟩
      · cases e
    · cases e
theorem pdi_zip {e e2 : Expr} {f : Ar} {p pos tpos : Pos} {elts : List Expr} {kk : Nat} (hg : Gl X "zip") (hm : X.mg "zip" = none) (ha : PDA X cl W [e, e2] f)
    (hs : starEach [e, e2] X.env = (false, eval e X.env) :: starEach [e2] X.env := by rfl) (hpl : (backTo pos (starEach [e2] X.env)).any (·.1) = false := by rfl) :
    PDI X cl W (.Tuple elts kk tpos) (.Call (.Name "zip" p) [e, e2] [] pos) (wZip f) := (RZ.pi_zipA hg hm ha hs hpl).imp fun σ H Q z => by
  obtain ⟨m, b, st, env, p, h⟩ := z
  refine ⟨m, b, st, env, p, ?_⟩
  unfold wZip at h
  cases e1 : f b env st with
  | er x s => rw [e1] at h; exact h
  | no => rw [e1] at h; exact h
  | ok ds s =>
    rw [e1] at h
    intro x H1 m1 t1 r1
    split at h
    · rename_i he
      cases he
      cases r1 with
      | cons r1 r2 =>
        cases r2 with
        | cons r2 r3 =>
          cases r3
          cases r1 with
          | tup hs hl =>
            cases r2 with
            | tup hs' hl' => exact ⟨_, _, _, _, rfl, .inr ⟨hs, hs', h _ H1 m1 _ t1 ⟨⟨_, hs, hl⟩, ⟨_, hs', hl'⟩⟩ wk_zipT⟩⟩
    · rename_i n k he
      cases he
      cases r1 with
      | cons r1 r2 =>
        cases r2 with
        | cons r2 r3 =>
          cases r3
          cases r1 with
          | ref ha =>
            cases r2 with
            | ref hc =>
              split at h
              · rename_i hd hd'
                obtain ⟨vs, hq, _⟩ := t1.rep.list ha hd
                obtain ⟨ws, hq', _⟩ := t1.rep.list hc hd'
                exact ⟨_, _, _, _, rfl, .inl ⟨hq, hq', h _ H1 m1 _ t1 ⟨ha, hc⟩ wk_zipL⟩⟩
              · exact h.elim
    · rename_i he
      cases he
    · exact h.elim
end
end DL
end S_DLw
section S_DLq
set_option Elab.async false
set_option linter.all false
set_option maxRecDepth 100000
set_option autoImplicit false
namespace DL
open PySem PySem.Spec PyProof.Rows L2

/-! ### dicts -/
section
variable {X : Cx} {pins : List (Addr × Obj)} {σ : L2.St} {m : Mp} {H : Hp} {s : Shared} {st : Sto}
mutual
theorem rep_gk (I : Inv X pins σ H s) : ∀ (n : Nat) (d : D) (v : V) (u : Value), D.gk n d = true → Rep X.K m H d v → RelV v u → GK s.heap d u
  | _, .int i, _, _, _, .int _, r => by
    obtain ⟨t, rfl⟩ := r
    exact .int i t
  | _, .str x, _, _, _, .str _, r => by
    obtain ⟨t, rfl⟩ := r
    exact .str x t
  | n + 1, .tup ds, _, _, h, .tup hs hl, r => by
    cases r
    unfold D.gk at h
    obtain ⟨its, rv, ⟨o, ho, hc, k, hd⟩, _⟩ := I.tuple hs
    exact .tup ho hc hd (repL_gk I n ds _ its h hl rv)
  | 0, .tup _, _, _, h, _, _ => by unfold D.gk at h; cases h
  | _, .non, _, _, h, _, _ => by unfold D.gk at h; cases h
  | _, .bl _, _, _, h, _, _ => by unfold D.gk at h; cases h
  | _, .ref _, _, _, h, _, _ => by unfold D.gk at h; cases h
theorem repL_gk (I : Inv X pins σ H s) : ∀ (n : Nat) (ds : List D) (vs : List V) (us : List Value), D.gks n ds = true → RepL X.K m H ds vs → Vals vs us → GKs s.heap ds us
  | _, [], _, _, _, .nil, .nil => .nil
  | n, d :: ds, _, _, h, .cons a b, .cons r rr => by
    unfold D.gks at h
    rw [Bool.and_eq_true] at h
    exact .cons (rep_gk I n d _ _ h.1 a r) (repL_gk I n ds _ _ h.2 b rr)
end
theorem gks_gk {ks : List D} (h : D.gks 7 ks = true) : D.gk 8 (.tup ks) = true := h
theorem rep_gis (I : Inv X pins σ H s) {ks : List D} {b : Addr} (h : D.gks 7 ks = true) (r : Rep X.K m H (.tup ks) (.ref b)) : (gKind X.prog X.w).is s.heap ks b := ⟨rep_gk I 8 (.tup ks) _ _ (gks_gk h) r rfl, gks_gk h⟩

/-! ### what stands under a key -/
abbrev FK (K : PySem.W.Frag) (m : Mp) (H : Hp) : Key × D → Key × V → Prop := fun p q => p.1 = q.1 ∧ Rep K m H p.2 q.2
abbrev FG (K : PySem.W.Frag) (m : Mp) (H : Hp) : List D × D → List D × Addr × V → Prop := fun p q => p.1 = q.1 ∧ Rep K m H (.tup p.1) (.ref q.2.1) ∧ Rep K m H p.2 q.2.2
abbrev GV : List D × Addr × V → List D × Addr × Value → Prop := fun p q => p.1 = q.1 ∧ p.2.1 = q.2.1 ∧ RelV p.2.2 q.2.2
theorem dget_rel {K : PySem.W.Frag} (k : Key) {kvs : List (Key × D)} {xs : List (Key × V)} (r : Paired (FK K m H) kvs xs) : match dget k kvs with
    | some d => ∃ v, valV xs k = some v ∧ Rep K m H d v
    | none => valV xs k = none := by
  induction r with
  | nil => exact valV_nil
  | @cons p q ps qs h t ih =>
    unfold dget
    by_cases e : p.1 = k
    · rw [decide_eq_true e]
      exact ⟨q.2, valV_pos (by rw [← h.1]; exact e), h.2⟩
    · rw [decide_eq_false e]
      dsimp only
      rw [valV_neg (by rw [← h.1]; exact e)]
      exact ih
theorem dset_rel {K : PySem.W.Frag} (k : Key) {kvs : List (Key × D)} {xs : List (Key × V)} (r : Paired (FK K m H) kvs xs) {d : D} {v : V} (rd : Rep K m H d v) : Paired (FK K m H) (dset k d kvs) (putK xs k v) := by
  have g := dget_rel k r
  unfold dset putK
  have e := valV_any k xs
  cases q : dget k kvs with
  | none =>
    rw [q] at g
    dsimp only at g ⊢
    rw [g] at e
    rw [e]
    rw [if_neg (by simp)]
    exact Paired.snoc r ⟨rfl, rd⟩
  | some d0 =>
    rw [q] at g
    obtain ⟨v0, g, _⟩ := g
    rw [g] at e
    rw [e]
    dsimp only
    rw [if_pos (by simp)]
    clear g e q
    induction r with
    | nil => exact .nil
    | @cons p q ps qs h t ih =>
      refine .cons ?_ ih
      dsimp only
      by_cases z : p.1 = k
      · rw [decide_eq_true z, if_pos (by rw [← h.1]; exact z)]
        exact ⟨h.1, rd⟩
      · rw [decide_eq_false z, if_neg (by rw [← h.1]; exact z)]
        exact h
theorem gget_rel {K : PySem.W.Frag} (k : List D) {kvs : List (List D × D)} {xs : List (List D × Addr × V)} {ys : List (List D × Addr × Value)} (r : Paired (FG K m H) kvs xs) (r2 : Paired GV xs ys) : match gget k kvs with
    | some d => ∃ p v, atKey ys k = some p ∧ Rep K m H d v ∧ RelV v p.2
    | none => atKey ys k = none := by
  induction r generalizing ys with
  | nil =>
    cases r2
    rfl
  | @cons p q ps qs h t ih =>
    cases r2 with
    | @cons _ y _ zs h2 t2 =>
      unfold gget
      rw [beqs_dec]
      by_cases e : p.1 = k
      · rw [decide_eq_true e]
        refine ⟨y.2, q.2.2, ?_, h.2.2, h2.2.2⟩
        simp [atKey, List.find?_cons, ← h2.1, ← h.1, e]
      · rw [decide_eq_false e]
        have e2 : atKey (y :: zs) k = atKey zs k := by simp [atKey, List.find?_cons, ← h2.1, ← h.1, e]
        dsimp only
        rw [e2]
        exact ih t2
/-- the V-level of a store -/
def storedV (xs : List (List D × Addr × V)) (k : List D) (b : Addr) (v : V) (o : Bool) : List (List D × Addr × V) := if o = true then xs.map (fun p => if p.1 = k then (p.1, p.2.1, v) else p) else xs ++ [(k, b, v)]
theorem gset_rel {K : PySem.W.Frag} (k : List D) {b : Addr} {kvs : List (List D × D)} {xs : List (List D × Addr × V)} (r : Paired (FG K m H) kvs xs) {d : D} {v : V} (rk : Rep K m H (.tup k) (.ref b)) (rd : Rep K m H d v) :
    Paired (FG K m H) (gset k d kvs) (storedV xs k b v (gget k kvs).isSome) := by
  unfold gset storedV
  cases q : gget k kvs with
  | none =>
    dsimp only [Option.isSome]
    rw [if_neg (by simp)]
    exact Paired.snoc r ⟨rfl, rk, rd⟩
  | some d0 =>
    dsimp only [Option.isSome]
    rw [if_pos rfl]
    clear q
    induction r with
    | nil => exact .nil
    | @cons p q ps qs h t ih =>
      refine .cons ?_ ih
      dsimp only
      rw [beqs_dec]
      by_cases z : p.1 = k
      · rw [decide_eq_true z, if_pos (by rw [← h.1]; exact z)]
        exact ⟨h.1, h.2.1, rd⟩
      · rw [decide_eq_false z, if_neg (by rw [← h.1]; exact z)]
        exact h
theorem storedV_rel (k : List D) {b : Addr} {xs : List (List D × Addr × V)} {ys : List (List D × Addr × Value)} (r : Paired GV xs ys) {v : V} {u : Value} (rv : RelV v u) : Paired GV (storedV xs k b v (atKey ys k).isSome) (storedH ys k b u) := by
  unfold storedV storedH
  by_cases q : (atKey ys k).isSome = true
  · rw [if_pos q, if_pos q]
    clear q
    induction r with
    | nil => exact .nil
    | @cons p q ps qs h t ih =>
      refine .cons ?_ ih
      show GV (if p.1 = k then (p.1, p.2.1, v) else p) (putAt k u q)
      unfold putAt
      by_cases z : p.1 = k
      · rw [if_pos z, if_pos (by rw [← h.1]; exact z)]
        exact ⟨h.1, h.2.1, rv⟩
      · rw [if_neg z, if_neg (by rw [← h.1]; exact z)]
        exact h
  · rw [if_neg q, if_neg q]
    exact Paired.snoc r ⟨rfl, rfl, rv⟩
theorem storedV_keys (k : List D) {b : Addr} {v : V} {xs : List (List D × Addr × V)} {ys : List (List D × Addr × Value)} (r : Paired GV xs ys) (hn : (xs.map (·.1)).Nodup) : ((storedV xs k b v (atKey ys k).isSome).map (·.1)).Nodup := by
  unfold storedV
  by_cases q : (atKey ys k).isSome = true
  · rw [if_pos q, List.map_map]
    have e : (fun p : List D × Addr × V => p.1) ∘ (fun p => if p.1 = k then (p.1, p.2.1, v) else p) = fun p => p.1 := by
      funext p
      show (if p.1 = k then (p.1, p.2.1, v) else p).1 = p.1
      split <;> rfl
    rw [e]
    exact hn
  · rw [if_neg q, List.map_append, List.nodup_append]
    refine ⟨hn, by simp, fun a ha b' hb z => ?_⟩
    subst z
    have hb : a = k := by simpa using hb
    subst hb
    apply q
    clear q hn
    induction r with
    | nil => simp at ha
    | @cons p q ps qs h t ih =>
      by_cases z : p.1 = a
      · simp [atKey, List.find?_cons, ← h.1, z]
      · have e2 : atKey (q :: qs) a = atKey qs a := by simp [atKey, List.find?_cons, ← h.1, z]
        rw [e2]
        refine ih ?_
        rw [List.map_cons] at ha
        rcases List.mem_cons.mp ha with w | w
        · exact absurd w.symm z
        · exact w
theorem paired_len {α β : Type} {F : α → β → Prop} {l : List α} {r : List β} (h : Paired F l r) : l.length = r.length := Paired.length h
theorem storedV_len (k : List D) {b : Addr} {v : V} {o : Bool} (xs : List (List D × Addr × V)) : (storedV xs k b v o).length ≤ xs.length + 1 := by
  unfold storedV
  split
  · rw [List.length_map]
    exact Nat.le_succ _
  · rw [List.length_append]
    exact Nat.le_refl _

/-! ### an object's reading -/
theorem RepS.dk {w : World} {K : PySem.W.Frag} (R : RepS w K m H st) {n : Nat} {a : Addr} {kvs : List (Key × D)} (ha : m n = some a) (h : st.raw n = some (.dk kvs)) : ∃ xs, Rd H a (.dK xs) ∧ Paired (FK K m H) kvs xs := by
  unfold Sto.raw at h
  cases e : st.get n with
  | none => rw [e] at h; cases h
  | some o =>
    rw [e] at h
    obtain ⟨a', u, h1, h2, h3⟩ := R.obj n o e
    rw [ha] at h1
    cases h1
    have h := Option.some.inj h
    cases h3 with
    | dk r =>
      cases h
      exact ⟨_, .inl h2, r⟩
    | lk r =>
      have h : _ = _ := h
      dsimp only [O.raw] at h
      subst h
      cases r with
      | dk r => exact ⟨_, .inr ⟨_, h2⟩, r⟩
    | lst r => cases h
    | dg g r => cases h
theorem RepS.dg {w : World} {K : PySem.W.Frag} (R : RepS w K m H st) {n : Nat} {a : Addr} {kvs : List (List D × D)} (ha : m n = some a) (h : st.raw n = some (.dg kvs)) : ∃ xs, Rd H a (gdO w a xs) ∧ (∀ p ∈ kvs, D.gks 7 p.1 = true) ∧ Paired (FG K m H) kvs xs := by
  unfold Sto.raw at h
  cases e : st.get n with
  | none => rw [e] at h; cases h
  | some o =>
    rw [e] at h
    obtain ⟨a', u, h1, h2, h3⟩ := R.obj n o e
    rw [ha] at h1
    cases h1
    have h := Option.some.inj h
    cases h3 with
    | dg g r =>
      cases h
      exact ⟨_, .inl h2, g, r⟩
    | lk r =>
      have h : _ = _ := h
      dsimp only [O.raw] at h
      subst h
      cases r with
      | dg g r => exact ⟨_, .inr ⟨_, h2⟩, g, r⟩
    | lst r => cases h
    | dk r => cases h
theorem all_gis (I : Inv X pins σ H s) {kvs : List (List D × D)} {xs : List (List D × Addr × V)} {ys : List (List D × Addr × Value)} (g : ∀ p ∈ kvs, D.gks 7 p.1 = true) (r : Paired (FG X.K m H) kvs xs) (r2 : Paired GV xs ys) : ∀ y ∈ ys, (gKind X.prog X.w).is s.heap y.1 y.2.1 := by
  induction r generalizing ys with
  | nil =>
    cases r2
    intro y hy
    exact nomatch hy
  | @cons p q ps qs h t ih =>
    cases r2 with
    | @cons _ y _ zs h2 t2 =>
      intro z hz
      rcases List.mem_cons.mp hz with e | hz
      · subst e
        have := rep_gis I (g p List.mem_cons_self) h.2.1
        rw [← h2.1, ← h2.2.1, ← h.1]
        exact this
      · exact ih (fun p hp => g p (List.mem_cons_of_mem _ hp)) t2 z hz
theorem gv_keys {xs : List (List D × Addr × V)} {ys : List (List D × Addr × Value)} (r2 : Paired GV xs ys) : ys.map (·.1) = xs.map (·.1) := by
  induction r2 with
  | nil => rfl
  | cons h t ih =>
    rw [List.map_cons, List.map_cons, h.1]
    exact congrArg _ ih
theorem gd_of (I : Inv X pins σ H s) {a : Addr} {kvs : List (List D × D)} {xs : List (List D × Addr × V)} (hr : Rd H a (gdO X.w a xs)) (g : ∀ p ∈ kvs, D.gks 7 p.1 = true) (r : Paired (FG X.K m H) kvs xs) :
    (a == sysModules) = false ∧ xs.length ≤ LIM ∧ (xs.map (·.1)).Nodup ∧ ∃ ys, Paired GV xs ys ∧ s.heap.DictOfH (gKind X.prog X.w) a ys := by
  have ok : ObjOk X.prog X.w H s.heap a (gdO X.w a xs) := rd_of I.hok hr
  obtain ⟨⟨h1, h2, h3, ys, r2, o, es, ep, h4, h5, h6, h7⟩, _, _⟩ := ok
  have kn : ys.map (·.1) = xs.map (·.1) := gv_keys r2
  exact ⟨h1, h2, h3, ys, r2, o, es, ep, h4, h5, h6, h7, all_gis I g r r2, by rw [kn]; exact h3⟩

/-! ### rules over what the store tells -/
def OptK (P : D → Prop) (N : Prop) : Option D → Prop
  | some d => P d
  | none => N
theorem key_kV {k : D} {q : Key} {y : V} (h : k.key = some q) (r : Rep X.K m H k y) : y = kV q := by
  cases r with
  | int i => cases h; rfl
  | str x => cases h; rfl
  | _ => cases h
/-- the dict told by the store, as the kit reads it: of kind K, or of tuples -/
theorem look_cases (I : Inv X pins σ H s) (R : RepS X.w X.K m H st) {n : Nat} {a : Addr} {k : D} {y : V} {u : Value} {o : Option D} (ha : m n = some a) (rk : Rep X.K m H k y) (ru : RelV y u) (hl : look st n k = some o) :
    (∃ g, DGet H a y g ∧ OptK (fun d => ∃ v, g = some v ∧ Rep X.K m H d v) (g = none) o) ∨
    (∃ (ks : List D) (b : Addr) (ys : List (List D × Addr × Value)), k = .tup ks ∧ y = .ref b ∧ (a == sysModules) = false ∧ ys.length ≤ LIM ∧ (gKind X.prog X.w).is s.heap ks b ∧ s.heap.DictOfH (gKind X.prog X.w) a ys ∧ OptK (fun d => ∃ p v, atKey ys ks = some p ∧ Rep X.K m H d v ∧ RelV v p.2) (atKey ys ks = none) o) := by
  unfold look at hl
  split at hl
  · rename_i kvs hg
    cases hk : k.key with
    | none => rw [hk] at hl; cases hl
    | some q =>
      rw [hk] at hl
      have hl := Option.some.inj hl
      obtain ⟨xs, h1, h2⟩ := R.dk ha hg
      have hy := key_kV hk rk
      subst hy
      left
      refine ⟨valV xs q, .inl ⟨xs, q, h1, rfl, rfl⟩, ?_⟩
      have g := dget_rel q h2
      rw [hl] at g
      cases o <;> exact g
  · rename_i kvs hg
    cases rk with
    | @tup b ks vs hs hr =>
      dsimp only at hl
      split at hl
      · rename_i hgk
        have hl := Option.some.inj hl
        obtain ⟨xs, h1, g, h2⟩ := R.dg ha hg
        obtain ⟨z1, z2, z3, ys, z4, z5⟩ := gd_of I h1 g h2
        right
        refine ⟨ks, b, ys, rfl, rfl, z1, by rw [← paired_len z4]; exact z2, rep_gis I hgk (.tup hs hr), z5, ?_⟩
        have q := gget_rel ks h2 z4
        rw [hl] at q
        cases o <;> exact q
      · cases hl
    | _ => cases hl
  · cases hl
theorem gRoom {A : Around} (h : A.units + 100 < cLine) : (gKind X.prog X.w).room A.in1 := by
  show A.in1.units + 64 < cLine
  rw [units_in1]
  omega
theorem look_get {A : Around} {E : Value → Shared → Prop} {Q : Value → Shared → Prop} (hu : A.units + 100 < cLine) (I : Inv X pins σ H s) (R : RepS X.w X.K m H st) {n : Nat} {a : Addr} {k : D} {y : V} {u : Value} {d : D} (ha : m n = some a) (rk : Rep X.K m H k y) (ru : RelV y u) (hl : look st n k = some (some d))
    (h : ∀ v w' s', Rep X.K m H d v → RelV v w' → Inv X pins σ H s' → Q w' s') : wpAny (model X.prog X.w) A (getItem (.ref a) u) Q E s := by
  rcases look_cases I R ha rk ru hl with ⟨g, h1, v, rfl, h3⟩ | ⟨ks, b, ys, rfl, rfl, h1, h2, h3, h4, p, v, h5, h6, h7⟩
  · exact d_getItem (by omega) I h1 ru fun w' s' I' rw' => h v w' s' h3 rw' I'
  · cases ru
    exact wpAny_getItem_heap (gRoom hu) h3 h4 h5 (h v _ _ h6 h7 (I.tok _))
theorem look_in {A : Around} {E : Value → Shared → Prop} {Q : Value → Shared → Prop} (hu : A.units + 100 < cLine) (I : Inv X pins σ H s) (R : RepS X.w X.K m H st) {n : Nat} {a : Addr} {k : D} {y : V} {u : Value} {o : Option D} (ha : m n = some a) (rk : Rep X.K m H k y) (ru : RelV y u) (hl : look st n k = some o)
    (h : ∀ s', Inv X pins σ H s' → Q (.bool o.isSome) s') : wpAny (model X.prog X.w) A (compareOp .In u (.ref a)) Q E s := by
  rcases look_cases I R ha rk ru hl with ⟨g, h1, h2⟩ | ⟨ks, b, ys, rfl, rfl, h1, h2, h3, h4, h5⟩
  · have e : g.isSome = o.isSome := by
      cases o with
      | none =>
        have h2 : g = none := h2
        rw [h2]
        rfl
      | some d =>
        obtain ⟨v, rfl, _⟩ := h2
        rfl
    refine d_in (by omega) I h1 ru fun s' I' => ?_
    rw [e]
    exact h s' I'
  · cases ru
    have e : (atKey ys ks).isSome = o.isSome := by
      cases o with
      | none =>
        have h5 : atKey ys ks = none := h5
        rw [h5]
        rfl
      | some d =>
        obtain ⟨p, v, q, _⟩ := h5
        rw [q]
        rfl
    refine wpAny_in_heap (gRoom hu) h3 h1 h4 ?_
    rw [e]
    exact h _ (I.tok _)
theorem look_notIn {A : Around} {E : Value → Shared → Prop} {Q : Value → Shared → Prop} (hu : A.units + 100 < cLine) (I : Inv X pins σ H s) (R : RepS X.w X.K m H st) {n : Nat} {a : Addr} {k : D} {y : V} {u : Value} {o : Option D} (ha : m n = some a) (rk : Rep X.K m H k y) (ru : RelV y u) (hl : look st n k = some o)
    (h : ∀ s', Inv X pins σ H s' → Q (.bool (!o.isSome)) s') : wpAny (model X.prog X.w) A (compareOp .NotIn u (.ref a)) Q E s := by
  rcases look_cases I R ha rk ru hl with ⟨g, h1, h2⟩ | ⟨ks, b, ys, rfl, rfl, h1, h2, h3, h4, h5⟩
  · have e : g.isSome = o.isSome := by
      cases o with
      | none =>
        have h2 : g = none := h2
        rw [h2]
        rfl
      | some d =>
        obtain ⟨v, rfl, _⟩ := h2
        rfl
    refine d_notIn (by omega) I h1 ru fun s' I' => ?_
    rw [e]
    exact h s' I'
  · cases ru
    have e : (atKey ys ks).isSome = o.isSome := by
      cases o with
      | none =>
        have h5 : atKey ys ks = none := h5
        rw [h5]
        rfl
      | some d =>
        obtain ⟨p, v, q, _⟩ := h5
        rw [q]
        rfl
    refine wpAny_notIn_heap (gRoom hu) h3 h1 h4 ?_
    rw [e]
    exact h _ (I.tok _)
end
end DL
end S_DLq
section S_DLr
set_option Elab.async false
set_option linter.all false
set_option maxRecDepth 100000
set_option autoImplicit false
namespace DL
open PySem PySem.Spec PyProof.Rows L2

/-! ### calls of built-ins -/
section
variable {X : Cx} {cl : Cls} {W : WX}
theorem tCB_of {r : List V → Hp → VK → Prop} {f : Fn} {fa : Ar} (hs : SemC X cl W r f) {σ : SV} {H : Hp} {Q : VK} (h : tE (gX X cl W) (cCall f fa) σ H Q) : tCB r (tA (gX X cl W) fa) σ H Q := by
  obtain ⟨m, b, st, env, p, h⟩ := h
  refine ⟨m, b, st, env, p, (PostA.bind (R := RepL X.K) h).imp fun xs H1 z => ?_⟩
  obtain ⟨m1, st1, ds, t1, r1, h1⟩ := z
  have p1 := p.to t1
  exact hs m1 H1 b st1 σ ds xs Q p1.rep p1.le r1 h1
theorem pd_callB {id : String} {x : Str} {e : Expr} {es : List Expr} {p pos : Pos} {r : List V → Hp → VK → Prop} {f : Fn} {fa : Ar} (hc : CallR X (.builtin id) r) (hs : SemC X cl W r f) (hg : Gl X x) (hm : X.mg x = none) (hv : bootBuiltins x = some (.builtin id)) (ha : PDA X cl W (e :: es) fa) (hn : x ≠ "__name__" := by decide) (hdb : (x == ("__debug__" : Str)) = false := by decide)
    (he : starEach (e :: es) X.env = (false, eval e X.env) :: starEach es X.env := by rfl) (hpl : (backTo pos (starEach es X.env)).any (·.1) = false := by rfl) : PD X cl W (.Call (.Name x p) (e :: es) [] pos) (cCall f fa) :=
  (pe_callB hc hg hm hv ha hn hdb he hpl).imp fun σ H Q h => tCB_of hs h
theorem pd_callTy {T : String} {x : Str} {e : Expr} {es : List Expr} {p pos : Pos} {r : List V → Hp → VK → Prop} {f : Fn} {fa : Ar} (hc : CallR X (.type T) r) (hs : SemC X cl W r f) (hg : Gl X x) (hm : X.mg x = none) (hv : bootBuiltins x = some (.type T)) (ha : PDA X cl W (e :: es) fa) (hn : x ≠ "__name__" := by decide) (hdb : (x == ("__debug__" : Str)) = false := by decide)
    (he : starEach (e :: es) X.env = (false, eval e X.env) :: starEach es X.env := by rfl) (hpl : (backTo pos (starEach es X.env)).any (·.1) = false := by rfl) : PD X cl W (.Call (.Name x p) (e :: es) [] pos) (cCall f fa) :=
  (pe_callTy hc hg hm hv ha hn hdb he hpl).imp fun σ H Q h => tCB_of hs h
theorem CallR.or' {f : Value} {r r' : List V → Hp → VK → Prop} (h : CallR X f r) (h' : CallR X f r') : CallR X f (fun xs H Q => r xs H Q ∨ r' xs H Q) := fun pins s σ H xs us Q I rv q => q.elim (h pins s σ H xs us Q I rv) (h' pins s σ H xs us Q I rv)

/-! ### len -/
def rLenSt (X : Cx) : List V → Hp → VK → Prop := fun xs H Q => ∃ (m : Mp) (st : Sto) (n : Nat) (a : Addr) (o : O), RepS X.w X.K m H st ∧ xs = [.ref a] ∧ m n = some a ∧ st.raw n = some o ∧ ((∃ kvs, o = .dk kvs ∧ Q (.int (kvs.length : Nat)) H) ∨ ∃ kvs, o = .dg kvs ∧ Q (.int (kvs.length : Nat)) H)
theorem call_lenSt : CallR X (.builtin "len") (rLenSt X) := by
  intro pins s σ H xs us Q I r h
  obtain ⟨m, st, n, a, o, R, rfl, ha, ho, h⟩ := h
  obtain ⟨u, rfl, rx⟩ := vals1 r
  obtain rfl : u = .ref a := rx
  rcases h with ⟨kvs, rfl, h⟩ | ⟨kvs, rfl, h⟩
  · obtain ⟨xs, h1, h2⟩ := R.dk ha ho
    rw [paired_len h2] at h
    exact d_len I h1 fun t s' I' => ⟨.int (xs.length : Nat), H, I', ⟨_, rfl⟩, h⟩
  · obtain ⟨xs, h1, g, h2⟩ := R.dg ha ho
    obtain ⟨z1, z2, z3, ys, z4, z5⟩ := gd_of I h1 g h2
    rw [paired_len h2, paired_len z4] at h
    have hl : ys.length ≤ LIM := by rw [← paired_len z4]; exact z2
    refine call_len_dictH z1 z5 (by unfold LIM at hl; omega) ?_
    exact ⟨.int (ys.length : Nat), H, I.tok _, ⟨_, rfl⟩, h⟩
def rLenA (X : Cx) : List V → Hp → VK → Prop := fun xs H Q => (∃ x n, xs = [x] ∧ LenV X.K x H n ∧ Q (.int n) H) ∨ rLenSt X xs H Q
theorem call_lenA : CallR X (.builtin "len") (rLenA X) := CallR.or' call_len call_lenSt
theorem m_len : SemC X cl W (rLenA X) bLen := by
  intro m H b st σ ds xs Q R hb r h
  unfold bLen at h
  cases r with
  | nil => exact h.elim
  | @cons d x ds xs r1 r2 =>
    cases r2 with
    | cons _ _ =>
      cases d <;> exact h.elim
    | nil =>
      cases r1 with
      | tup hs hl =>
        refine .inl ⟨_, _, rfl, .inr ⟨_, hs, rfl⟩, ?_⟩
        rw [← hl.length]
        exact PostA.put (R := Rep X.K) h R (.int _)
      | str z =>
        dsimp only at h
        split at h
        · rename_i hz
          rw [Nat.ble_eq] at hz
          exact .inl ⟨_, _, rfl, ⟨lim_line hz, rfl⟩, PostA.put (R := Rep X.K) h R (.int _)⟩
        · exact h.elim
      | @ref n a ha =>
        dsimp only at h
        split at h
        · rename_i ds hl
          obtain ⟨vs, h1, h2⟩ := R.list ha hl
          refine .inl ⟨_, _, rfl, .inl ⟨_, h1, rfl⟩, ?_⟩
          rw [← h2.length]
          exact PostA.put (R := Rep X.K) h R (.int _)
        · split at h
          · rename_i kvs hr
            exact .inr ⟨m, st, n, a, _, R, rfl, ha, hr, .inl ⟨_, rfl, PostA.put (R := Rep X.K) h R (.int _)⟩⟩
          · rename_i kvs hr
            exact .inr ⟨m, st, n, a, _, R, rfl, ha, hr, .inr ⟨_, rfl, PostA.put (R := Rep X.K) h R (.int _)⟩⟩
          · exact h.elim
      | _ => exact h.elim

/-! ### int, abs, max, min of two -/
theorem m_int : SemC X cl W (fun xs H Q => (∃ i, xs = [.int i] ∧ Q (.int i) H) ∨ ∃ k, xs = [.bl k] ∧ Q (.int (if k then 1 else 0)) H) bInt := by
  intro m H b st σ ds xs Q R hb r h
  unfold bInt at h
  split at h
  · cases r with
    | cons r1 r2 =>
      cases r2
      cases r1
      exact .inl ⟨_, rfl, PostA.put (R := Rep X.K) h R (.int _)⟩
  · cases r with
    | cons r1 r2 =>
      cases r2
      cases r1
      exact .inr ⟨_, rfl, PostA.put (R := Rep X.K) h R (.int _)⟩
  · exact h.elim
theorem m_abs : SemC X cl W (fun xs H Q => ∃ i, xs = [.int i] ∧ Q (.int (if i < 0 then -i else i)) H) bAbs := by
  intro m H b st σ ds xs Q R hb r h
  unfold bAbs at h
  split at h
  · cases r with
    | cons r1 r2 =>
      cases r2
      cases r1
      exact ⟨_, rfl, PostA.put (R := Rep X.K) h R (.int _)⟩
  · exact h.elim
theorem ints_rep {K : PySem.W.Frag} {m : Mp} {H : Hp} : ∀ {ds : List D} {vs : List V} {is : List Int}, intsOf ds = some is → RepL K m H ds vs → vs = is.map V.int
  | [], _, _, h, .nil => by
    cases h
    rfl
  | d :: ds, _, is, h, .cons r1 r2 => by
    cases d with
    | int i =>
      unfold intsOf at h
      split at h
      · rename_i js hj
        cases h
        cases r1
        rw [ints_rep hj r2]
        rfl
      · cases h
    | _ => cases h
def rMaxA (X : Cx) : List V → Hp → VK → Prop := fun xs H Q => (∃ i j, xs = [.int i, .int j] ∧ Q (.int (if j > i then j else i)) H) ∨ rMax X.K xs H Q
def rMinA (X : Cx) : List V → Hp → VK → Prop := fun xs H Q => (∃ i j, xs = [.int i, .int j] ∧ Q (.int (if j < i then j else i)) H) ∨ rMin X.K xs H Q
theorem call_maxA (hc : X.calm = true) : CallR X (.builtin "max") (rMaxA X) := CallR.or' (call_max2 hc) (cr_max hc)
theorem call_minA (hc : X.calm = true) : CallR X (.builtin "min") (rMinA X) := CallR.or' (call_min2 hc) (cr_min hc)
theorem maxI_is : ∀ (is : List Int) (m : Int), (∀ y, y ∈ m :: is → y ≤ maxI m is) ∧ maxI m is ∈ m :: is
  | [], m => ⟨fun y hy => by rw [List.mem_singleton.mp hy]; exact Int.le_refl _, List.mem_singleton.mpr rfl⟩
  | i :: is, m => by
    obtain ⟨h1, h2⟩ := maxI_is is (if m < i then i else m)
    unfold maxI
    refine ⟨fun y hy => ?_, ?_⟩
    · rcases List.mem_cons.mp hy with e | hy
      · subst e
        have := h1 _ List.mem_cons_self
        split at this <;> rename_i q
        · exact Int.le_trans (Int.le_of_lt q) (by rw [if_pos q]; exact this)
        · rw [if_neg q]; exact this
      · rcases List.mem_cons.mp hy with e | hy
        · subst e
          have := h1 _ List.mem_cons_self
          split at this <;> rename_i q
          · rw [if_pos q]; exact this
          · rw [if_neg q]; exact Int.le_trans (Int.not_lt.mp q) this
        · exact h1 y (List.mem_cons_of_mem _ hy)
    · rcases List.mem_cons.mp h2 with e | h2
      · rw [e]
        split
        · exact List.mem_cons_of_mem _ List.mem_cons_self
        · exact List.mem_cons_self
      · exact List.mem_cons_of_mem _ (List.mem_cons_of_mem _ h2)
theorem minI_is : ∀ (is : List Int) (m : Int), (∀ y, y ∈ m :: is → minI m is ≤ y) ∧ minI m is ∈ m :: is
  | [], m => ⟨fun y hy => by rw [List.mem_singleton.mp hy]; exact Int.le_refl _, List.mem_singleton.mpr rfl⟩
  | i :: is, m => by
    obtain ⟨h1, h2⟩ := minI_is is (if i < m then i else m)
    unfold minI
    refine ⟨fun y hy => ?_, ?_⟩
    · rcases List.mem_cons.mp hy with e | hy
      · subst e
        have := h1 _ List.mem_cons_self
        split at this <;> rename_i q
        · exact Int.le_trans (by rw [if_pos q]; exact this) (Int.le_of_lt q)
        · rw [if_neg q]; exact this
      · rcases List.mem_cons.mp hy with e | hy
        · subst e
          have := h1 _ List.mem_cons_self
          split at this <;> rename_i q
          · rw [if_pos q]; exact this
          · rw [if_neg q]; exact Int.le_trans this (Int.not_lt.mp q)
        · exact h1 y (List.mem_cons_of_mem _ hy)
    · rcases List.mem_cons.mp h2 with e | h2
      · rw [e]
        split
        · exact List.mem_cons_of_mem _ List.mem_cons_self
        · exact List.mem_cons_self
      · exact List.mem_cons_of_mem _ (List.mem_cons_of_mem _ h2)
theorem m_max : SemC X cl W (rMaxA X) bMax := by
  intro m H b st σ ds xs Q R hb r h
  unfold bMax at h
  split at h
  · rename_i n
    cases r with
    | cons r1 r2 =>
      cases r2
      cases r1 with
      | ref ha =>
        split at h
        · rename_i ds hl
          obtain ⟨vs, h1, h2⟩ := R.list ha hl
          split at h
          · rename_i i is hi
            have e := ints_rep hi h2
            subst e
            obtain ⟨q1, q2⟩ := maxI_is is i
            refine .inr ⟨_, i :: is, rfl, h1, Nat.succ_pos _, fun z hz hle => ?_⟩
            have : z = maxI i is := Int.le_antisymm (q1 z hz) (hle _ q2)
            rw [this]
            exact PostA.put (R := Rep X.K) h R (.int _)
          · exact h.elim
        · exact h.elim
  · cases r with
    | cons r1 r2 =>
      cases r2 with
      | cons r2 r3 =>
        cases r3
        cases r1
        cases r2
        exact .inl ⟨_, _, rfl, PostA.put (R := Rep X.K) h R (.int _)⟩
  · exact h.elim
theorem m_min : SemC X cl W (rMinA X) bMin := by
  intro m H b st σ ds xs Q R hb r h
  unfold bMin at h
  split at h
  · rename_i n
    cases r with
    | cons r1 r2 =>
      cases r2
      cases r1 with
      | ref ha =>
        split at h
        · rename_i ds hl
          obtain ⟨vs, h1, h2⟩ := R.list ha hl
          split at h
          · rename_i i is hi
            have e := ints_rep hi h2
            subst e
            obtain ⟨q1, q2⟩ := minI_is is i
            refine .inr ⟨_, i :: is, rfl, h1, Nat.succ_pos _, fun z hz hle => ?_⟩
            have : z = minI i is := Int.le_antisymm (hle _ q2) (q1 z hz)
            rw [this]
            exact PostA.put (R := Rep X.K) h R (.int _)
          · exact h.elim
        · exact h.elim
  · cases r with
    | cons r1 r2 =>
      cases r2 with
      | cons r2 r3 =>
        cases r3
        cases r1
        cases r2
        exact .inl ⟨_, _, rfl, PostA.put (R := Rep X.K) h R (.int _)⟩
  · exact h.elim
theorem m_sum : SemC X cl W (rSum X.K) bSum := by
  intro m H b st σ ds xs Q R hb r h
  unfold bSum at h
  split at h
  · rename_i n
    cases r with
    | cons r1 r2 =>
      cases r2
      cases r1 with
      | ref ha =>
        split at h
        · rename_i ds hl
          obtain ⟨vs, h1, h2⟩ := R.list ha hl
          split at h
          · rename_i is hi
            have e := ints_rep hi h2
            subst e
            exact ⟨_, is, rfl, h1, PostA.put (R := Rep X.K) h R (.int _)⟩
          · exact h.elim
        · exact h.elim
  · exact h.elim
theorem allB_rep {K : PySem.W.Frag} {m : Mp} {H : Hp} : ∀ {ds : List D} {vs : List V} {bs : List Bool}, blsOf ds = some bs → RepL K m H ds vs → vs = bs.map V.bl
  | [], _, _, h, .nil => by
    cases h
    rfl
  | d :: ds, _, is, h, .cons r1 r2 => by
    cases d with
    | bl i =>
      unfold blsOf at h
      split at h
      · rename_i js hj
        cases h
        cases r1
        rw [allB_rep hj r2]
        rfl
      · cases h
    | _ => cases h
theorem m_all : SemC X cl W (rAll X.K) bAll := by
  intro m H b st σ ds xs Q R hb r h
  unfold bAll at h
  split at h
  · rename_i n
    cases r with
    | cons r1 r2 =>
      cases r2
      cases r1 with
      | ref ha =>
        split at h
        · rename_i ds hl
          obtain ⟨vs, h1, h2⟩ := R.list ha hl
          split at h
          · rename_i is hi
            have e := allB_rep hi h2
            subst e
            exact ⟨_, is, rfl, h1, PostA.put (R := Rep X.K) h R (.bl _)⟩
          · exact h.elim
        · exact h.elim
  · exact h.elim
theorem m_any : SemC X cl W (rAny X.K) bAny := by
  intro m H b st σ ds xs Q R hb r h
  unfold bAny at h
  split at h
  · rename_i n
    cases r with
    | cons r1 r2 =>
      cases r2
      cases r1 with
      | ref ha =>
        split at h
        · rename_i ds hl
          obtain ⟨vs, h1, h2⟩ := R.list ha hl
          split at h
          · rename_i is hi
            have e := allB_rep hi h2
            subst e
            exact ⟨_, is, rfl, h1, PostA.put (R := Rep X.K) h R (.bl _)⟩
          · exact h.elim
        · exact h.elim
  · exact h.elim
end
end DL
end S_DLr
section S_DLt
set_option Elab.async false
set_option linter.all false
set_option maxRecDepth 100000
set_option autoImplicit false
namespace DL
open PySem PySem.Spec PyProof.Rows L2

/-! ### tuple, list, isinstance -/
section
variable {X : Cx} {cl : Cls} {W : WX}
theorem m_tuple : SemC X cl W (fun xs H Q => ∃ p ys, xs = [.ref p] ∧ ((SqL X.K H p ys ∧ ∀ l, H l = none → Q (.ref l) (upd H l (.tup ys))) ∨ (SqT X.K H p ys ∧ Q (.ref p) H))) bTuple := by
  intro m H b st σ ds xs Q R hb r h
  unfold bTuple at h
  split at h
  · cases r with
    | cons r1 r2 =>
      cases r2
      cases r1 with
      | tup hs hl => exact ⟨_, _, rfl, .inr ⟨hs, PostA.put (R := Rep X.K) h R (.tup hs hl)⟩⟩
  · cases r with
    | cons r1 r2 =>
      cases r2
      cases r1 with
      | ref ha =>
        split at h
        · rename_i ds hl
          obtain ⟨vs, h1, h2⟩ := R.list ha hl
          refine ⟨_, vs, rfl, .inl ⟨h1, fun l hl => ?_⟩⟩
          have t := To.tup (vs := vs) (b := b) R hl
          exact h _ _ m t (.tup (.inl (.inl upd_same)) (h2.mono t.ext))
        · exact h.elim
  · exact h.elim
def rListA (X : Cx) : List V → Hp → VK → Prop := fun xs H Q => (∃ p ys, xs = [.ref p] ∧ (SqL X.K H p ys ∨ SqT X.K H p ys) ∧ ∀ l, H l = none → Q (.ref l) (upd H l (.lst ys))) ∨
  ∃ (a : Addr) (kvs : List (Key × V)), xs = [.ref a] ∧ Rd H a (.dK kvs) ∧ ∀ p, H p = none → Q (.ref p) (upd H p (.lst (kvs.map fun kv => kV kv.1)))
theorem call_listA (hc : X.calm = true) : CallR X (.type "list") (rListA X) := CallR.or' call_list_of (call_listD hc)
theorem To.new {w : World} {K : PySem.W.Frag} {m : Mp} {H : Hp} {b : Nat} {st : Sto} {p : Addr} {ds : List D} {vs : List V} (R : RepS w K m H st) (hb : b ≤ st.sz) (hp : H p = none) (r : RepL K m H ds vs) : To w K m H b st (m.add st.sz p) (upd H p (.lst vs)) (st.push (.lst ds)) :=
  To.alloc R hb hp (.lst (r.mono (Ext.alloc R hp)))
theorem kD_rep {K : PySem.W.Frag} {m : Mp} {H : Hp} (k : Key) : Rep K m H (kD k) (kV k) := match k with
  | .inl i => .int i
  | .inr x => .str x
theorem keys_rep {K : PySem.W.Frag} {m : Mp} {H : Hp} {kvs : List (Key × D)} {xs : List (Key × V)} (r : Paired (FK K m H) kvs xs) : RepL K m H (kvs.map fun p => kD p.1) (xs.map fun p => kV p.1) := by
  induction r with
  | nil => exact .nil
  | cons h t ih =>
    rw [List.map_cons, List.map_cons, h.1]
    exact .cons (kD_rep _) ih
theorem m_list : SemC X cl W (rListA X) bList := by
  intro m H b st σ ds xs Q R hb r h
  unfold bList at h
  split at h
  · cases r with
    | cons r1 r2 =>
      cases r2
      cases r1 with
      | tup hs hl => exact .inl ⟨_, _, rfl, .inr hs, fun l hl' => h _ _ _ (To.new R hb hl' hl) (.ref Mp.add_self)⟩
  · cases r with
    | cons r1 r2 =>
      cases r2
      cases r1 with
      | ref ha =>
        split at h
        · rename_i ds hl
          obtain ⟨vs, h1, h2⟩ := R.list ha hl
          exact .inl ⟨_, vs, rfl, .inl h1, fun l hl' => h _ _ _ (To.new R hb hl' h2) (.ref Mp.add_self)⟩
        · split at h
          · rename_i kvs hk
            obtain ⟨vs, h1, h2⟩ := R.dk ha hk
            exact .inr ⟨_, vs, rfl, h1, fun l hl' => h _ _ _ (To.new R hb hl' (keys_rep h2)) (.ref Mp.add_self)⟩
          · exact h.elim
  · exact h.elim

/-- the class of a datum -/
def tyN : D → Option String
  | .non => some "NoneType"
  | .bl _ => some "bool"
  | .int _ => some "int"
  | .str _ => some "str"
  | .tup _ => some "tuple"
  | .ref _ => some "list"
def Ty.nm : Ty → String
  | .tup => "tuple"
  | .lst => "list"
  | .bool => "bool"
  | .str => "str"
  | .int => "int"
theorem tyX_of {m : Mp} {H : Hp} {st : Sto} (R : RepS X.w X.K m H st) {d : D} {x : V} {t : Ty} {k : Bool} (r : Rep X.K m H d x) (h : isTy t d st = some k) : ∃ n, TyX X.K H x (.type n) ∧ kitB n t.nm = some k := by
  cases r with
  | non => exact ⟨_, .base .non, by cases t <;> (cases h; decide +kernel)⟩
  | bl b => exact ⟨_, .base (.bl b), by cases t <;> (cases h; decide +kernel)⟩
  | int b => exact ⟨_, .base (.int b), by cases t <;> (cases h; decide +kernel)⟩
  | str b => exact ⟨_, .base (.str b), by cases t <;> (cases h; decide +kernel)⟩
  | tup hs hl =>
    refine ⟨"tuple", ?_, by cases t <;> (cases h; decide +kernel)⟩
    rcases hs with (hs | ⟨ob, hs⟩) | ⟨o, its, n, h1, h2, _⟩
    · exact .base (.tup hs)
    · exact .fTuple hs
    · exact .kTuple h1 h2
  | @ref n a ha =>
    unfold isTy at h
    dsimp only at h
    cases e : st.list n with
    | none => rw [e] at h; cases h
    | some ds =>
      rw [e] at h
      obtain ⟨vs, h1, _⟩ := R.list ha e
      refine ⟨"list", ?_, by cases t <;> (cases h; decide +kernel)⟩
      rcases h1 with (hs | ⟨ob, hs⟩) | ⟨o, its, n, h1, h2, _⟩
      · exact .base (.lst hs)
      · exact .base (.frz hs)
      · exact .kList h1 h2
theorem pd_isi {e : Expr} {tn : Str} {t : Ty} {p pt pos : Pos} {fa : Ex} (hg : Gl X "isinstance") (hm : X.mg "isinstance" = none) (ha : PD X cl W e fa) (ht : PE X (.Name tn pt) (tC (.ty t.nm)))
    (hs : starEach [e, .Name tn pt] X.env = (false, eval e X.env) :: starEach [.Name tn pt] X.env := by rfl) (hs2 : starEach [.Name tn pt] X.env = (false, eval (.Name tn pt) X.env) :: starEach [] X.env := by rfl) (hpl : (backTo pos (starEach [.Name tn pt] X.env)).any (·.1) = false := by rfl) :
    PD X cl W (.Call (.Name "isinstance" p) [e, .Name tn pt] [] pos) (cCall (bIsi t) (cConsA fa cNilA)) := by
  refine (pe_callB call_isi hg hm (by decide +kernel) (pa_cons ha (pa_cons ht pa_nil hs2) hs) (by decide) (by decide) hs hpl).imp fun σ H Q z => ?_
  obtain ⟨m, b, st, env, p, h⟩ := z
  refine ⟨m, b, st, env, p, ?_⟩
  unfold cCall cConsA cNilA at h
  cases e1 : fa b env st with
  | ok d s =>
    rw [e1] at h
    intro x H1 m1 t1 r1
    dsimp only [Rs.bind, bIsi] at h
    cases e2 : isTy t d s with
    | none => rw [e2] at h; exact h.elim
    | some k =>
      rw [e2] at h
      obtain ⟨n, h1, h2⟩ := tyX_of t1.rep r1 e2
      exact ⟨x, .ty t.nm, .type n, .type t.nm, k, rfl, .ty _, h1, kit_ty h2, h _ H1 m1 t1 (.bl k)⟩
  | er x s => rw [e1] at h; exact h
  | no => rw [e1] at h; exact h

/-! ### d[i] -/
def rIxSt (X : Cx) : R2 := fun x y H Q => ∃ (m : Mp) (st : Sto) (n : Nat) (a : Addr) (k d : D), RepS X.w X.K m H st ∧ x = .ref a ∧ m n = some a ∧ Rep X.K m H k y ∧ look st n k = some (some d) ∧ ∀ v, Rep X.K m H d v → Q v H
theorem look_type {pins : List (Addr × Obj)} {σ : L2.St} {m : Mp} {H : Hp} {s : Shared} {st : Sto} (I : Inv X pins σ H s) (R : RepS X.w X.K m H st) {n : Nat} {a : Addr} (ha : m n = some a) (h : isRv .dict (.ref n) st = true) : s.TypeIs (.ref a) "dict" ∧ ∃ o, s.heap.get? a = some o ∧ o.dict = none := by
  unfold isRv at h
  dsimp only at h
  split at h
  · rename_i kvs hr
    obtain ⟨xs, h1, h2⟩ := R.dk ha hr
    obtain ⟨_, _, vs, _, dd⟩ := dk_rd I.hok h1
    refine ⟨dd.typeIs, ?_⟩
    obtain ⟨ob, _, _, q1, q2, _⟩ := dd
    exact ⟨ob, q1, q2.2.1⟩
  · rename_i kvs hr
    obtain ⟨xs, h1, g, h2⟩ := R.dg ha hr
    obtain ⟨_, _, _, ys, _, dd⟩ := gd_of I h1 g h2
    refine ⟨dd.typeIs, ?_⟩
    obtain ⟨ob, _, _, q1, q2, _⟩ := dd
    exact ⟨ob, q1, q2.2.1⟩
  · cases h
theorem look_isRv {st : Sto} {n : Nat} {k : D} {o : Option D} (h : look st n k = some o) : isRv .dict (.ref n) st = true := by
  unfold look at h
  unfold isRv
  dsimp only
  cases hr : st.raw n with
  | none => rw [hr] at h; cases h
  | some u =>
    rw [hr] at h
    cases u with
    | dk kvs => rfl
    | dg kvs => rfl
    | lst ds => cases h
    | lk u => cases h
theorem ix_st (hu : X.A.units + 100 < cLine) : IxR X (rIxSt X) := by
  intro value slice pins s σ H x y v u Q I rx ry h hs
  obtain ⟨m, st, n, a, k, d, R, rfl, ha, rk, hl, q⟩ := h
  obtain rfl : v = Value.ref a := rx
  exact tail_any (look_type I R ha (look_isRv hl)).1 PySem.F.slot_dict_getitem.lookup (look_get hu I R ha rk ry hl fun v w' s' rd rw' I' => ⟨v, H, I', rw', q v rd⟩) hs
def rIxA (X : Cx) : R2 := fun x y H Q => rIx X.K x y H Q ∨ rIxSt X x y H Q
theorem ix_A (hu : X.A.units + 100 < cLine) : IxR X (rIxA X) := ix_seq.or (ix_st hu)
theorem atI_rep {K : PySem.W.Frag} {m : Mp} {H : Hp} {ds : List D} {vs : List V} {i : Int} {d : D} (r : RepL K m H ds vs) (h : L2.atI ds i = some d) : ∃ v, L2.atI vs i = some v ∧ Rep K m H d v := by
  unfold L2.atI at h ⊢
  rw [← r.length]
  cases e : ixN ds.length i with
  | none => rw [e] at h; cases h
  | some j =>
    rw [e] at h
    obtain ⟨v, h1, h2⟩ := r.get (i := j) (show ds[j]? = some d from h)
    exact ⟨v, h1, h2⟩
theorem m_ix : Sem2 X cl W (rIxA X) oIx := by
  intro m H b st σ d e x y Q R hb rx ry h
  unfold oIx at h
  cases rx with
  | tup hs hl =>
    cases ry with
    | int i =>
      dsimp only at h
      split at h
      · rename_i d' hd
        obtain ⟨v, h1, h2⟩ := atI_rep hl hd
        exact .inl (.inr (.inl ⟨_, _, i, v, rfl, rfl, hs, h1, PostA.put (R := Rep X.K) h R h2⟩))
      · exact h.elim
    | _ => exact h.elim
  | str z =>
    cases ry with
    | int i =>
      dsimp only at h
      split at h
      · rename_i hz
        rw [Nat.ble_eq] at hz
        split at h
        · rename_i c hc
          exact .inl (.inr (.inr ⟨z, i, c, rfl, rfl, lim_line hz, hc, PostA.put (R := Rep X.K) h R (.str _)⟩))
        · exact h.elim
      · exact h.elim
    | _ => exact h.elim
  | @ref n a ha =>
    dsimp only at h
    split at h
    · rename_i ds hl
      obtain ⟨vs, h1, h2⟩ := R.list ha hl
      cases ry with
      | int i =>
        dsimp only at h
        split at h
        · rename_i d' hd
          obtain ⟨v, h3, h4⟩ := atI_rep h2 hd
          exact .inl (.inl ⟨_, _, i, v, rfl, rfl, h1, h3, PostA.put (R := Rep X.K) h R h4⟩)
        · exact h.elim
      | _ => exact h.elim
    · split at h
      · rename_i d' hd
        exact .inr ⟨m, st, n, a, e, d', R, rfl, ha, ry, hd, fun v rv => PostA.put (R := Rep X.K) h R rv⟩
      · exact h.elim
  | _ => exact h.elim

/-! ### in, not in -/
def rInSt (X : Cx) (neg : Bool) : R2 := fun x y H Q => ∃ (m : Mp) (st : Sto) (n : Nat) (a : Addr) (k : D) (o : Option D), RepS X.w X.K m H st ∧ y = .ref a ∧ m n = some a ∧ Rep X.K m H k x ∧ look st n k = some o ∧ Q (.bl (if neg = true then !o.isSome else o.isSome)) H
theorem op_inSt (hu : X.A.units + 100 < cLine) : OpR X (compareOp .In) (rInSt X false) := by
  intro pins s σ H x y v u Q I rx ry h
  obtain ⟨m, st, n, a, k, o, R, rfl, ha, rk, hl, q⟩ := h
  obtain rfl : u = Value.ref a := ry
  exact look_in hu I R ha rk rx hl fun s' I' => ⟨.bl o.isSome, H, I', rfl, q⟩
theorem op_notInSt (hu : X.A.units + 100 < cLine) : OpR X (compareOp .NotIn) (rInSt X true) := by
  intro pins s σ H x y v u Q I rx ry h
  obtain ⟨m, st, n, a, k, o, R, rfl, ha, rk, hl, q⟩ := h
  obtain rfl : u = Value.ref a := ry
  exact look_notIn hu I R ha rk rx hl fun s' I' => ⟨.bl (!o.isSome), H, I', rfl, q⟩
def rInA (X : Cx) : R2 := fun x y H Q => rInD X.K x y H Q ∨ rIn X.K false x y H Q ∨ rInSt X false x y H Q
def rNotInA (X : Cx) : R2 := fun x y H Q => rNotInD X.K x y H Q ∨ rIn X.K true x y H Q ∨ rInSt X true x y H Q
theorem op_inA (hu : X.A.units + 100 < cLine) : OpR X (compareOp .In) (rInA X) := (op_inD (by omega)).or (op_in_seq.or (op_inSt hu))
theorem op_notInA (hu : X.A.units + 100 < cLine) : OpR X (compareOp .NotIn) (rNotInA X) := (op_notInD (by omega)).or (op_notIn_seq.or (op_notInSt hu))
theorem inI {K : PySem.W.Frag} {m : Mp} {H : Hp} {i : Int} : ∀ {ds : List D} {vs : List V} {is : List Int}, intsOf' ds = some is → RepL K m H ds vs → vs.all flatV = true ∧ inV (.int i) vs = is.any fun j => j == i
  | [], _, _, h, .nil => by
    cases h
    exact ⟨rfl, rfl⟩
  | d :: ds, _, is, h, .cons r1 r2 => by
    cases d with
    | int j =>
      unfold intsOf' at h
      split at h
      · rename_i js hj
        cases h
        cases r1
        obtain ⟨h1, h2⟩ := inI (i := i) hj r2
        refine ⟨by rw [List.all_cons, h1]; rfl, ?_⟩
        rw [List.any_cons, ← h2]
        rfl
      · cases h
    | _ => cases h
theorem inS {K : PySem.W.Frag} {m : Mp} {H : Hp} {i : Str} : ∀ {ds : List D} {vs : List V} {is : List Str}, strsOf' ds = some is → RepL K m H ds vs → vs.all flatV = true ∧ inV (.str i) vs = is.any fun j => j == i
  | [], _, _, h, .nil => by
    cases h
    exact ⟨rfl, rfl⟩
  | d :: ds, _, is, h, .cons r1 r2 => by
    cases d with
    | str j =>
      unfold strsOf' at h
      split at h
      · rename_i js hj
        cases h
        cases r1
        obtain ⟨h1, h2⟩ := inS (i := i) hj r2
        refine ⟨by rw [List.all_cons, h1]; rfl, ?_⟩
        rw [List.any_cons, ← h2]
        rfl
      · cases h
    | _ => cases h
theorem any_eqv {d : D} (hd : D.gnd 60 d = true) : ∀ {ds : List D}, D.gnds 60 ds = true → ((D.toPs ds).any fun z => PyData.eqv z d.toP) = ds.any fun x => D.eqv x d
  | [], _ => rfl
  | e :: ds, h => by
    unfold D.gnds at h
    rw [Bool.and_eq_true] at h
    show (PyData.eqv e.toP d.toP || _) = (D.eqv e d || _)
    rw [eqv_toP 60 e d h.1 hd, any_eqv hd h.2]
theorem dIn_ok {m : Mp} {H : Hp} {st : Sto} {d e : D} {x y : V} {k : Bool} (R : RepS X.w X.K m H st) (rx : Rep X.K m H d x) (ry : Rep X.K m H e y) (h : dIn d e st = some k) :
    (∃ p ps, Dp X.K H x p ∧ Dp X.K H y (.list ps) ∧ SeqAt.shaped p = true ∧ SeqAt.shaped (.list ps) = true ∧ (ps.any fun z => PyData.eqv z p) = k) ∨
    (∃ a xs, y = .ref a ∧ (SqL X.K H a xs ∨ SqT X.K H a xs) ∧ flatV x = true ∧ xs.all flatV = true ∧ inV x xs = k) ∨
    ∃ (n : Nat) (a : Addr) (o : Option D), y = .ref a ∧ m n = some a ∧ look st n d = some o ∧ o.isSome = k := by
  unfold dIn at h
  cases ry with
  | @ref n a ha =>
    dsimp only at h
    split at h
    · rename_i ds hl
      split at h
      · rename_i hg
        rw [Bool.and_eq_true] at hg
        obtain ⟨vs, h1, h2⟩ := R.list ha hl
        refine .inl ⟨d.toP, D.toPs ds, rep_dp 60 d x hg.1 rx, .lst h1 (repL_dp 60 _ _ hg.2 h2), gnd_shaped hg.1, gnds_shaped hg.2, ?_⟩
        rw [any_eqv hg.1 hg.2]
        exact Option.some.inj h
      · cases h
    · split at h
      · rename_i o ho
        exact .inr (.inr ⟨n, a, o, rfl, ha, ho, Option.some.inj h⟩)
      · cases h
  | tup hs hl =>
    cases rx with
    | int i =>
      dsimp only at h
      split at h
      · rename_i is hi
        obtain ⟨h1, h2⟩ := inI (i := i) hi hl
        exact .inr (.inl ⟨_, _, rfl, .inr hs, rfl, h1, h2.trans (Option.some.inj h)⟩)
      · cases h
    | str i =>
      dsimp only at h
      split at h
      · rename_i is hi
        obtain ⟨h1, h2⟩ := inS (i := i) hi hl
        exact .inr (.inl ⟨_, _, rfl, .inr hs, rfl, h1, h2.trans (Option.some.inj h)⟩)
      · cases h
    | _ => cases h
  | _ => cases h
theorem m_in : Sem2 X cl W (rInA X) oIn := by
  intro m H b st σ d e x y Q R hb rx ry h
  unfold oIn at h
  cases e1 : dIn d e st with
  | none => rw [e1] at h; exact h.elim
  | some k =>
    rw [e1] at h
    have q := PostA.put (R := Rep X.K) h R (.bl k)
    rcases dIn_ok R rx ry e1 with ⟨p, ps, h1, h2, h3, h4, h5⟩ | ⟨a, xs, h1, h2, h3, h4, h5⟩ | ⟨n, a, o, h1, h2, h3, h4⟩
    · exact .inl ⟨p, ps, h1, h2, h3, h4, by rw [h5]; exact q⟩
    · exact .inr (.inl ⟨a, xs, h1, h2, h3, h4, by rw [if_neg Bool.false_ne_true, h5]; exact q⟩)
    · exact .inr (.inr ⟨m, st, n, a, d, o, R, h1, h2, rx, h3, by rw [if_neg Bool.false_ne_true, h4]; exact q⟩)
theorem m_notin : Sem2 X cl W (rNotInA X) oNotIn := by
  intro m H b st σ d e x y Q R hb rx ry h
  unfold oNotIn at h
  cases e1 : dIn d e st with
  | none => rw [e1] at h; exact h.elim
  | some k =>
    rw [e1] at h
    have q := PostA.put (R := Rep X.K) h R (.bl (!k))
    rcases dIn_ok R rx ry e1 with ⟨p, ps, h1, h2, h3, h4, h5⟩ | ⟨a, xs, h1, h2, h3, h4, h5⟩ | ⟨n, a, o, h1, h2, h3, h4⟩
    · exact .inl ⟨p, ps, h1, h2, h3, h4, by rw [h5]; exact q⟩
    · exact .inr (.inl ⟨a, xs, h1, h2, h3, h4, by rw [if_pos rfl, h5]; exact q⟩)
    · exact .inr (.inr ⟨m, st, n, a, d, o, R, h1, h2, rx, h3, by rw [if_pos rfl, h4]; exact q⟩)
end
end DL
end S_DLt
section S_DLu
set_option Elab.async false
set_option linter.all false
set_option maxRecDepth 100000
set_option autoImplicit false
namespace DL
open PySem PySem.Spec PyProof.Rows L2

/-! ### slices -/
def tP (g : G) (f : Po) : TO := fun σ H Q => ∃ m b st env, Pre g m H b st env σ ∧ PostA (fun _ _ (x y : Option Int) => x = y) g m H b st σ Q (f b env st)
section
variable {X : Cx} {cl : Cls} {W : WX}
abbrev PDP (X : Cx) (cl : Cls) (W : WX) (e : Option Expr) (f : Po) : Prop := PO X e (tP (gX X cl W) f)
theorem _root_.L2.PO.imp {X : Cx} {e : Option Expr} {t t' : TO} (h : PO X e t) (q : ∀ σ H Q, t' σ H Q → t σ H Q) : PO X e t' := ⟨fun pins s σ H Q I w => h.run pins s σ H Q I (q σ H Q w)⟩
theorem pdp_no : PDP X cl W none pNo := po_none.imp fun σ H Q z => by
  obtain ⟨m, b, st, env, p, h⟩ := z
  exact h none H m (.refl p.rep) rfl
theorem pdp_so {e : Expr} {f : Ex} (he : PD X cl W e f) : PDP X cl W (some e) (pSo f) := (po_some he).imp fun σ H Q z => by
  obtain ⟨m, b, st, env, p, h⟩ := z
  refine ⟨m, b, st, env, p, (PostA.bind (R := Rep X.K) h).imp fun x H1 z => ?_⟩
  obtain ⟨m1, st1, d, t1, r1, h1⟩ := z
  cases d with
  | int i =>
    cases r1
    exact ⟨i, rfl, h1 _ H1 m1 (.refl t1.rep) rfl⟩
  | _ => exact h1.elim
theorem cut_rep {K : PySem.W.Frag} {m : Mp} {H : Hp} {ds : List D} {vs : List V} (r : RepL K m H ds vs) (lo hi : Option Int) : RepL K m H (cutD ds lo hi) (cutV vs lo hi) := by
  unfold cutD cutV
  rw [r.length]
  exact (r.drop _).take _
theorem cut_all {ds : List D} {lo hi : Option Int} (h : HT.sIx ds.length 0 lo = 0 ∧ HT.sIx ds.length ds.length hi = ds.length) : cutD ds lo hi = ds := by
  unfold cutD
  rw [h.1, h.2]
  simp
def rSlAll (X : Cx) : V → Option Int → Option Int → Hp → VK → Prop := fun x lo hi H Q => rSlL X.K x lo hi H Q ∨ rSlA X.K x lo hi H Q ∨ rSlS x lo hi H Q
theorem sl_all : SlR X (rSlAll X) := sl_list.or (sl_tupA.or sl_str)
theorem m_sl (lo hi : Option Int) {m : Mp} {H : Hp} {b : Nat} {st : Sto} {σ : SV} {d : D} {x : V} {Q : VK} (R : RepS X.w X.K m H st) (hb : b ≤ st.sz) (rx : Rep X.K m H d x) (h : PostE (gX X cl W) m H b st σ Q (oSl lo hi d st)) : rSlAll X x lo hi H Q := by
  unfold oSl at h
  cases rx with
  | @tup a ds vs hs hl =>
    refine .inr (.inl ⟨_, _, rfl, hs, fun hw => ?_, fun hw p hp => ?_⟩)
    · rw [← hl.length] at hw
      dsimp only at h
      rw [cut_all hw] at h
      exact PostA.put (R := Rep X.K) h R (.tup hs hl)
    · have t := To.tup (vs := cutV vs lo hi) (b := b) R hp
      exact h _ _ m t (.tup (.inl (.inl upd_same)) ((cut_rep hl lo hi).mono t.ext))
  | str z =>
    dsimp only at h
    split at h
    · rename_i hz
      rw [Nat.ble_eq] at hz
      exact .inr (.inr ⟨z, rfl, lim_line hz, PostA.put (R := Rep X.K) h R (.str _)⟩)
    · exact h.elim
  | ref ha =>
    dsimp only at h
    split at h
    · rename_i ds hl
      obtain ⟨vs, h1, h2⟩ := R.list ha hl
      exact .inl ⟨_, vs, rfl, h1, fun p hp => h _ _ _ (To.new R hb hp (cut_rep h2 lo hi)) (.ref Mp.add_self)⟩
    · exact h.elim
  | _ => exact h.elim
theorem pd_sl {e : Expr} {lo hi : Option Expr} {pos p2 : Pos} {f : Ex} {fl fh : Po} (he : PD X cl W e f) (hl : PDP X cl W lo fl) (hh : PDP X cl W hi fh) : PD X cl W (.Subscript e (.Slice lo hi none p2) pos) (cSl f fl fh) := (pe_slice sl_all he hl hh).imp fun σ H Q z => by
  obtain ⟨m, b, st, env, p, h⟩ := z
  refine ⟨m, b, st, env, p, (PostA.bind (R := Rep X.K) h).imp fun x H1 z => ?_⟩
  obtain ⟨m1, st1, d, t1, r1, h1⟩ := z
  have p1 := p.to t1
  refine ⟨m1, b, st1, env, p1, (PostA.bind (R := fun _ _ (x y : Option Int) => x = y) h1).imp fun i H2 z => ?_⟩
  obtain ⟨m2, st2, i', t2, r2, h2⟩ := z
  subst r2
  have p2 := p1.to t2
  refine ⟨m2, b, st2, env, p2, (PostA.bind (R := fun _ _ (x y : Option Int) => x = y) h2).imp fun j H3 z => ?_⟩
  obtain ⟨m3, st3, j', t3, r3, h3⟩ := z
  subst r3
  have p3 := p2.to t3
  exact m_sl i' j' p3.rep p3.le ((r1.mono t2.ext).mono t3.ext) h3

/-! ### xs[::-1] -/
section
variable {prog : Program} {w : World} {A : Around} {E : Value → Shared → Prop} {s : Shared}
theorem slice_back {sl : Addr} {vl vu : Value} {t : Tok} {n : Nat} {Q : Int × Int × Nat → Shared → Prop} (hs : s.heap.IsSliceOf sl vl vu (.int (-1) t)) (pl : IsPart vl none) (pu : IsPart vu none)
    (h : Q ((n : Int) - 1, -1, n) s) : wpAny (model prog w) A (Builtin.Slice.sliceApplied (.ref sl) (pure (n : Int))) Q E s := by
  obtain ⟨os, hos, hcs, hds⟩ := id hs
  unfold Builtin.Slice.sliceApplied Builtin.Slice.sliceFields
  refine wpAny_bind (wpAny_bind (wpAny_field hos hds (x := vl) rfl (wpAny_bind (wpAny_field hos hds (x := vu) rfl (wpAny_bind (wpAny_field hos hds (x := .int (-1) t) rfl (wpAny_pure ?_)))))))
  refine wpAny_bind (HT.slicePart_ (.int (-1) t) ?_)
  show wpAny _ _ (if ((-1 : Int) == 0) = true then _ else _) _ _ s
  rw [if_neg (by decide)]
  refine wpAny_bind (HT.slicePart_ pl (wpAny_bind (HT.slicePart_ pu (wpAny_bind (wpAny_pure ?_)))))
  have e1 : Builtin.Slice.sliceAdjust none none (-1) (n : Int) = ((n : Int) - 1, -1) := by
    unfold Builtin.Slice.sliceAdjust
    simp
  have e2 : Builtin.Slice.slicePlaces ((n : Int) - 1) (-1) (-1) = n := by
    unfold Builtin.Slice.slicePlaces
    rw [if_neg (by omega)]
    by_cases q : (n : Int) - 1 > -1
    · rw [if_pos q]
      have : (n : Int) - 1 - -1 - 1 = (n : Int) - 1 := by omega
      rw [this]
      have e3 : (- -1 : Int) = 1 := by omega
      rw [e3, Int.ediv_one]
      omega
    · rw [if_neg q]
      omega
  show wpAny _ _ (match Builtin.Slice.sliceAdjust none none (-1) (n : Int) with | (lo, hi) => pure (lo, (-1 : Int), Builtin.Slice.slicePlaces lo hi (-1))) _ _ s
  rw [e1]
  show wpAny _ _ (pure ((n : Int) - 1, (-1 : Int), Builtin.Slice.slicePlaces ((n : Int) - 1) (-1) (-1))) _ _ s
  rw [e2]
  exact wpAny_pure h
theorem pick_back (xs : List Value) : ∀ k : Nat, k ≤ xs.length → ((List.range k).filterMap fun (m : Nat) => xs.toArray[((xs.length : Int) - 1 + (m : Int) * -1).toNat]?) = xs.reverse.take k
  | 0, _ => by simp
  | k + 1, h => by
    rw [List.range_succ, List.filterMap_append, pick_back xs k (by omega)]
    have e : ((xs.length : Int) - 1 + (k : Int) * -1).toNat = xs.length - 1 - k := by omega
    have hk : xs.length - 1 - k < xs.length := by omega
    rw [List.filterMap_cons]
    simp only [e, List.getElem?_toArray, List.getElem?_eq_getElem hk, List.filterMap_nil]
    rw [List.take_succ, List.getElem?_reverse (by omega), List.getElem?_eq_getElem hk]
    rfl
theorem getItem_tuple_back {t sl : Addr} {items : List Value} {vl vu : Value} {tk : Tok} {Q : Value → Shared → Prop} (ht : IsTup s.heap t items.toArray) (hs : s.heap.IsSliceOf sl vl vu (.int (-1) tk)) (pl : IsPart vl none) (pu : IsPart vu none)
    (h : Q (.ref s.heap.objs.size) { s with heap := s.heap.push { cls := .type "tuple", data := .seq items.reverse.toArray } }) (hsz : items.length ≤ sizeLine) : wpAny (model prog w) A (getItem (.ref t) (.ref sl)) Q E s := by
  have hok : sizeOk (.seq items.reverse.toArray) := by
    show items.reverse.toArray.size ≤ sizeLine
    rw [List.size_toArray, List.length_reverse]
    exact hsz
  obtain ⟨os, hos, hcs, hds⟩ := id hs
  have hTs : s.TypeIs (.ref sl) "slice" := ⟨os, hos, hcs⟩
  unfold getItem
  try with_reducible refine wpAny_holding ?_
  first | refine wpAny_bind (wpAny_pure ?_) | skip
  refine wpAny_bind (wpAny_sequenceKey ht.typeIs (by decide) ?_)
  refine wpAny_bind (wpAny_callSpecial?_slot (name := Str.ofString "__getitem__") ht.typeIs PyProof.Rows.slot_tuple_getitem (wpAny_call_entry PyProof.Rows.slot_tuple_getitem ht.typeIs entry_tuple_getitem ?_ (args_tuple_getitem _ _)))
  show wpAny _ _ (Builtin.Tuple.tupleItemsOf (.ref t) >>= _) _ _ s
  refine wpAny_bind (PyProof.Rows.tupleItemsOf_ ht ?_)
  refine wpAny_bind (wpAny_typeOf hTs ?_)
  rw [if_pos (by decide)]
  rw [List.size_toArray]
  refine wpAny_bind (slice_back hs pl pu ?_)
  show wpAny _ _ (if (((items.length : Int) - 1) == 0 && (-1 : Int) == 1 && items.length == items.toArray.size) = true then _ else _) _ _ s
  rw [if_neg (by
    intro q
    rw [Bool.and_eq_true, Bool.and_eq_true] at q
    exact absurd q.1.2 (by decide))]
  rw [pick_back items items.length (Nat.le_refl _)]
  have e : items.reverse.take items.length = items.reverse := List.take_of_length_le (by rw [List.length_reverse]; exact Nat.le_refl _)
  rw [e]
  first
    | exact wpAny_bind (m := Builtin.Tuple.tupleExact _) (wpAny_newObj_type (wpAny_pure ⟨_, rfl, wpAny_pure h⟩) hok)
    | exact wpAny_bind (m := Builtin.Tuple.tupleExact _) (wpAny_newObj_type (wpAny_bind (wpAny_pure (wpAny_pure ⟨_, rfl, wpAny_pure h⟩))) hok)
    | exact wpAny_bind (wpAny_bind (m := Builtin.Tuple.tupleExact _) (wpAny_newObj_type (wpAny_pure (wpAny_pure ⟨_, rfl, wpAny_pure h⟩)) hok))
    | exact wpAny_bind (wpAny_bind (m := Builtin.Tuple.tupleExact _) (wpAny_newObj_type (wpAny_pure ⟨_, rfl, wpAny_pure h⟩) hok))
end
/-- a[::-1], a list or a tuple -/
def tRevA (K : PySem.W.Frag) (te : TE) : TE := fun σ H Q => te σ H fun x H1 => ∃ a xs, x = .ref a ∧ ((SqL K H1 a xs ∧ ∀ p, H1 p = none → Q (.ref p) (upd H1 p (.lst xs.reverse))) ∨ (SqT K H1 a xs ∧ ∀ p, H1 p = none → Q (.ref p) (upd H1 p (.tup xs.reverse))))
theorem pe_revA {e : Expr} {te : TE} {k : Nat} {p1 p2 p3 pos : Pos} (he : PE X e te) : PE X (.Subscript e (.Slice none none (some (.UnaryOp .USub (.Constant (.int 1) k p1) p2)) p3) pos) (tRevA X.K te) := by
  refine ⟨fun pins s σ H Q I h => ?_⟩
  refine Subscript_ (thn (he.run pins s σ H _ I h) fun v s1 z => ?_)
  obtain ⟨x, H1, I1, r1, a, xs, ex, q⟩ := z
  subst ex
  cases r1
  have hst : PO X (some (.UnaryOp .USub (.Constant (.int 1) k p1) p2)) (tPart (tUn (rU fun i => .int (-i)) (tC (.int 1)))) := po_some (pe_un un_neg pe_int)
  refine wpAny_Slice (thn (po_none.run pins s1 σ H1 (fun o H2 => o = none ∧ H2 = H1) I1 ⟨rfl, rfl⟩) fun vl s2 z => ?_)
  obtain ⟨l, H2, I2, pl, rfl, rfl⟩ := z
  refine thn (po_none.run pins s2 σ _ (fun o H3 => o = none ∧ H3 = H2) I2 ⟨rfl, rfl⟩) fun vu s3 z => ?_
  obtain ⟨u, H3, I3, pu, rfl, rfl⟩ := z
  refine thn (hst.run pins s3 σ _ (fun o H4 => o = some (-1) ∧ H4 = H3) I3 ⟨1, rfl, -1, rfl, rfl, rfl⟩) fun vs s4 z => ?_
  obtain ⟨o, H4, I4, ps, rfl, rfl⟩ := z
  have I5 : Inv X pins σ H4 { s4 with heap := s4.heap.push { cls := .type "slice", data := .fields #[vl, vu, vs] } } := I4.kept (t' := s4.toks) fun b o q => Heap.get?_push_of_some _ q
  show wpAny (model X.prog X.w) X.A (subscriptTail e (.Slice none none (some (.UnaryOp .USub (.Constant (.int 1) k p1) p2)) p3) (.ref a) (.ref s4.heap.objs.size)) (EP X pins σ Q) X.xe { s4 with heap := s4.heap.push { cls := .type "slice", data := .fields #[vl, vu, vs] } }
  rcases q with ⟨hx, q⟩ | ⟨hx, q⟩
  · obtain ⟨its, r, ht, hz⟩ := I5.list hx
    have hlen := r.length
    refine tail_any (ops := [.ref a, .ref s4.heap.objs.size]) ht.isList.typeIs (PySem.slot_list_getitem.lookup) ?_ (by with_unfolding_all rfl)
    refine wpAny_getItem_list_slice ht.isList (Heap.IsSliceOf.new _ vl vu vs) pl pu ps (by decide) ?_ (by rw [List.size_toArray]; omega)
    rw [PySem.W.krv_pick]
    refine ⟨.ref _, _, I5.laid (t' := s4.toks) (o := .lst xs.reverse) (fun b o q => Heap.get?_push_of_some _ q) (Nat.le_refl _) ?_, rfl, q _ (I5.hok.fresh (Nat.le_refl _))⟩
    exact ⟨by rw [List.length_reverse]; exact hz, _, 0, r.reverse, Heap.get?_push_size _ rfl⟩
  · obtain ⟨its, r, ht, hz⟩ := I5.tuple hx
    have hlen := r.length
    refine tail_any (ops := [.ref a, .ref s4.heap.objs.size]) ht.typeIs (PyProof.Rows.slot_tuple_getitem.lookup) ?_ (by with_unfolding_all rfl)
    cases ps with
    | int _ tk =>
      refine getItem_tuple_back (items := its) ht (Heap.IsSliceOf.new _ vl vu _) pl pu ?_ (by rw [← hlen]; exact hz)
      refine ⟨.ref _, _, I5.laid (t' := s4.toks) (o := .tup xs.reverse) (fun b o q => Heap.get?_push_of_some _ q) (Nat.le_refl _) ?_, rfl, q _ (I5.hok.fresh (Nat.le_refl _))⟩
      exact ⟨by rw [List.length_reverse]; exact hz, _, r.reverse, IsTup.new _ _⟩
theorem pd_rev {e : Expr} {f : Ex} {k : Nat} {p1 p2 p3 pos : Pos} (he : PD X cl W e f) : PD X cl W (.Subscript e (.Slice none none (some (.UnaryOp .USub (.Constant (.int 1) k p1) p2)) p3) pos) (cUn oRev f) := (pe_revA he).imp fun σ H Q z => by
  obtain ⟨m, b, st, env, p, h⟩ := z
  refine ⟨m, b, st, env, p, (PostA.bind (R := Rep X.K) h).imp fun x H1 z => ?_⟩
  obtain ⟨m1, st1, d, t1, r1, h1⟩ := z
  have p1 := p.to t1
  unfold oRev at h1
  cases r1 with
  | @tup a ds vs hs hl =>
    refine ⟨_, _, rfl, .inr ⟨hs, fun p hp => ?_⟩⟩
    have t := To.tup (vs := vs.reverse) (b := b) p1.rep hp
    exact h1 _ _ m1 t (.tup (.inl (.inl upd_same)) (hl.reverse.mono t.ext))
  | ref ha =>
    dsimp only at h1
    split at h1
    · rename_i ds hl
      obtain ⟨vs, h3, h4⟩ := p1.rep.list ha hl
      exact ⟨_, vs, rfl, .inl ⟨h3, fun p hp => h1 _ _ _ (To.new p1.rep p1.le hp h4.reverse) (.ref Mp.add_self)⟩⟩
    · exact h1.elim
  | _ => exact h1.elim
end
end DL
end S_DLu
section S_DLv
set_option Elab.async false
set_option linter.all false
set_option maxRecDepth 100000
set_option autoImplicit false
namespace DL
open PySem PySem.Spec PyProof.Rows L2

/-! ### what may be written -/
theorem lo0 {c : Nat} {d : D} (h : d.lo 0 = true) : d.lo c = true := lo_mono (Nat.zero_le _) d h
theorem los_append {c : Nat} : ∀ {ds es : List D}, D.los c ds = true → D.los c es = true → D.los c (ds ++ es) = true
  | [], _, _, h => h
  | d :: ds, es, h, q => by
    have h : (d.lo c && D.los c ds) = true := h
    show (d.lo c && D.los c (ds ++ es)) = true
    rw [Bool.and_eq_true] at h ⊢
    exact ⟨h.1, los_append h.2 q⟩
theorem los_mem {c : Nat} {ds : List D} : D.los c ds = true ↔ ∀ d ∈ ds, d.lo c = true := by
  rw [los_all, List.all_eq_true]
theorem los_set {c : Nat} {e : D} (he : e.lo c = true) {ds : List D} {j : Nat} (h : D.los c ds = true) : D.los c (ds.set j e) = true := by
  rw [los_mem] at h ⊢
  intro d hd
  rcases List.mem_or_eq_of_mem_set hd with q | q
  · exact h d q
  · rw [q]; exact he
theorem los_sub {c : Nat} {ds es : List D} (hs : ∀ d ∈ es, d ∈ ds) (h : D.los c ds = true) : D.los c es = true := by
  rw [los_mem] at h ⊢
  exact fun d hd => h d (hs d hd)
theorem fits_or {b n : Nat} {e : D} (h : fits b n e = true) : b ≤ n ∨ e.lo 0 = true := by
  unfold fits at h
  rw [Bool.or_eq_true, Nat.ble_eq] at h
  exact h
theorem dset_lo {c : Nat} {k : Key} {e : D} (he : e.lo c = true) {kvs : List (Key × D)} (h : (O.dk kvs).lo c = true) : (O.dk (dset k e kvs)).lo c = true := by
  unfold O.lo at h ⊢
  rw [List.all_eq_true] at h ⊢
  intro p hp
  unfold dset at hp
  split at hp
  · obtain ⟨q, hq, rfl⟩ := List.mem_map.mp hp
    split
    · exact he
    · exact h q hq
  · rcases List.mem_append.mp hp with q | q
    · exact h p q
    · rw [List.mem_singleton.mp q]
      exact he
theorem gks_lo {c : Nat} : ∀ (n : Nat) (d : D), D.gk n d = true → d.lo c = true := by
  have both : ∀ n, (∀ d, D.gk n d = true → d.lo c = true) ∧ ∀ ds, D.gks n ds = true → D.los c ds = true := by
    intro n
    have lst : (∀ d, D.gk n d = true → d.lo c = true) → ∀ ds, D.gks n ds = true → D.los c ds = true := fun f ds => by
      induction ds with
      | nil => exact fun _ => rfl
      | cons d ds ih =>
        intro h
        unfold D.gks at h
        rw [Bool.and_eq_true] at h
        show (d.lo c && D.los c ds) = true
        rw [Bool.and_eq_true]
        exact ⟨f d h.1, ih h.2⟩
    induction n with
    | zero =>
      have f : ∀ d, D.gk 0 d = true → d.lo c = true := fun d h => by
        cases d with
        | int i => rfl
        | str x => rfl
        | _ => unfold D.gk at h; cases h
      exact ⟨f, lst f⟩
    | succ n ih =>
      have lst' : (∀ d, D.gk n d = true → d.lo c = true) → ∀ ds, D.gks n ds = true → D.los c ds = true := fun f ds => by
        induction ds with
        | nil => exact fun _ => rfl
        | cons d ds ih =>
          intro h
          unfold D.gks at h
          rw [Bool.and_eq_true] at h
          show (d.lo c && D.los c ds) = true
          rw [Bool.and_eq_true]
          exact ⟨f d h.1, ih h.2⟩
      have ih := (ih (lst' · )).2
      have f : ∀ d, D.gk (n + 1) d = true → d.lo c = true := fun d h => by
        cases d with
        | int i => rfl
        | str x => rfl
        | tup ds =>
          unfold D.gk at h
          unfold D.lo
          exact ih ds h
        | _ => unfold D.gk at h; cases h
      exact ⟨f, lst f⟩
  exact fun n => (both n).1
theorem gset_lo {c : Nat} {k : List D} {e : D} (hk : D.gks 7 k = true) (he : e.lo c = true) {kvs : List (List D × D)} (h : (O.dg kvs).lo c = true) : (O.dg (gset k e kvs)).lo c = true := by
  unfold O.lo at h ⊢
  rw [List.all_eq_true] at h ⊢
  intro p hp
  unfold gset at hp
  split at hp
  · obtain ⟨q, hq, rfl⟩ := List.mem_map.mp hp
    have z := h q hq
    rw [Bool.and_eq_true] at z
    split
    · rw [Bool.and_eq_true]
      exact ⟨z.1, he⟩
    · rw [Bool.and_eq_true]
      exact z
  · rcases List.mem_append.mp hp with q | q
    · exact h p q
    · rw [List.mem_singleton.mp q, Bool.and_eq_true]
      have z := gks_lo (c := c) 8 (.tup k) hk
      unfold D.lo at z
      exact ⟨z, he⟩
section
variable {w : World} {K : PySem.W.Frag} {m : Mp} {H : Hp} {st : Sto} {b n : Nat} {a : Addr}
theorem RepS.notfrz (R : RepS w K m H st) {o : O} (ha : m n = some a) (h : st.get n = some o) (hl : ∀ u, o ≠ .lk u) : ∀ ob v, H a ≠ some (.frz ob v) := by
  obtain ⟨a', u, h1, h2, h3⟩ := R.obj n o h
  rw [ha] at h1
  cases h1
  intro ob v z
  rw [h2] at z
  cases z
  cases h3 with
  | lk _ => exact hl _ rfl
/-- a list is written anew -/
theorem To.list (R : RepS w K m H st) {ds es : List D} {vs : List V} (ha : m n = some a) (h : st.get n = some (.lst ds)) (r : RepL K m H es vs) (q : b ≤ n ∨ ∀ c, D.los c ds = true → D.los c es = true) : To w K m H b st m (upd H a (.lst vs)) (st.put n (.lst es)) := by
  have nf := R.notfrz ha h fun u z => nomatch z
  exact To.write R ha h nf (.lst (r.mono (Ext.write R ha nf))) q
theorem RepS.dkx (R : RepS w K m H st) {kvs : List (Key × D)} (ha : m n = some a) (h : st.get n = some (.dk kvs)) : ∃ xs, H a = some (.dK xs) ∧ Paired (FK K m H) kvs xs := by
  obtain ⟨a', u, h1, h2, h3⟩ := R.obj n _ h
  rw [ha] at h1
  cases h1
  cases h3 with
  | dk r => exact ⟨_, h2, r⟩
theorem RepS.dgx (R : RepS w K m H st) {kvs : List (List D × D)} (ha : m n = some a) (h : st.get n = some (.dg kvs)) : ∃ xs, H a = some (gdO w a xs) ∧ (∀ p ∈ kvs, D.gks 7 p.1 = true) ∧ Paired (FG K m H) kvs xs := by
  obtain ⟨a', u, h1, h2, h3⟩ := R.obj n _ h
  rw [ha] at h1
  cases h1
  cases h3 with
  | dg g r => exact ⟨_, h2, g, r⟩
theorem gset_gks {k : List D} {e : D} (hk : D.gks 7 k = true) {kvs : List (List D × D)} (g : ∀ p ∈ kvs, D.gks 7 p.1 = true) : ∀ p ∈ gset k e kvs, D.gks 7 p.1 = true := by
  intro p hp
  unfold gset at hp
  split at hp
  · obtain ⟨q, hq, rfl⟩ := List.mem_map.mp hp
    split <;> exact g q hq
  · rcases List.mem_append.mp hp with q | q
    · exact g p q
    · rw [List.mem_singleton.mp q]
      exact hk
end

/-! ### a[i] = e -/
section
variable {X : Cx} {cl : Cls} {W : WX}
theorem gd_new {P : Program} {w : World} {H' : Hp} {h' : Heap} {a : Addr} {xs : List (List D × Addr × V)} {ys : List (List D × Addr × Value)} (z : xs.length ≤ LIM) (hd : (a == sysModules) = false) (hn : (xs.map (·.1)).Nodup) (rel : Paired GV xs ys) (dd : h'.DictOfH (gKind P w) a ys) :
    ObjOk P w H' h' a (gdO w a xs) := by
  obtain ⟨o, es, ep, h1, h2, h3, h4, _, _⟩ := dd
  refine ⟨⟨hd, z, hn, ys, rel, o, es, ep, h1, h2, h3, h4⟩, ⟨o, h1⟩, fun g1 g2 p k => ?_⟩
  obtain ⟨q1, q2, q3, ys, q4, o, es, ep, q5, q6⟩ := p
  exact ⟨q1, q2, q3, ys, q4, o, es, ep, k o q5, q6⟩
def rSetG (X : Cx) : TSet := fun o i v H Q => ∃ (m : Mp) (a b : Addr) (xs : List (List D × Addr × V)) (kvs : List (List D × D)) (ks : List D), o = .ref a ∧ i = .ref b ∧ H a = some (gdO X.w a xs) ∧ (∀ p ∈ kvs, D.gks 7 p.1 = true) ∧ Paired (FG X.K m H) kvs xs ∧ Rep X.K m H (.tup ks) (.ref b) ∧ D.gks 7 ks = true ∧ kvs.length < LIM ∧
  Q (upd H a (gdO X.w a (storedV xs ks b v (gget ks kvs).isSome)))
theorem set_G (hu : X.A.units + 100 < cLine) : PSet X (rSetG X) := by
  intro pins s σ H o i v ov iv u Q I ro ri rv h
  obtain ⟨m, a, b, xs, kvs, ks, rfl, rfl, hx, g, r, rk, hk, hl, q⟩ := h
  obtain rfl : ov = Value.ref a := ro
  obtain rfl : iv = Value.ref b := ri
  obtain ⟨z1, z2, z3, ys, z4, z5⟩ := gd_of I (.inl hx) g r
  have e : (gget ks kvs).isSome = (atKey ys ks).isSome := by
    have q := gget_rel ks r z4
    cases z : gget ks kvs with
    | none =>
      rw [z] at q
      have q : atKey ys ks = none := q
      rw [q]
      rfl
    | some d =>
      rw [z] at q
      obtain ⟨p, v, q, _⟩ := q
      rw [q]
      rfl
  have hsz : ys.length ≤ LIM := by rw [← paired_len z4]; exact z2
  refine wpAny_setItem_heap (hsz := lim_line hsz) (gRoom hu) (rep_gis I hk rk) z5 fun h' dd' hs => ?_
  have he : ∃ q, h'.get? a = some q := let ⟨q, _, _, hq, _⟩ := dd'; ⟨q, hq⟩
  refine ⟨_, d_write I (by rw [hx]; exact True.intro) hs he (gd_new ?_ z1 ?_ (storedV_rel ks z4 rv) dd'), ?_⟩
  · have := storedV_len ks (b := b) (v := v) (o := (atKey ys ks).isSome) xs
    have := paired_len r
    omega
  · exact storedV_keys ks z4 z3
  · rw [← e]
    exact q
def rSetA (X : Cx) : TSet := fun o i v H Q => rSetL o i v H Q ∨ rSetD o i v H Q ∨ rSetG X o i v H Q
theorem set_A (hu : X.A.units + 100 < cLine) : PSet X (rSetA X) := fun pins s σ H o i v ov iv u Q I ro ri rv h => h.elim (set_list pins s σ H o i v ov iv u Q I ro ri rv) fun h => h.elim (set_dict (by omega) pins s σ H o i v ov iv u Q I ro ri rv) (set_G hu pins s σ H o i v ov iv u Q I ro ri rv)
theorem kV_of {k : D} {q : Key} {m : Mp} {H : Hp} {y : V} (h : k.key = some q) (r : Rep X.K m H k y) : y = kV q := key_kV h r
theorem put_ok {m : Mp} {H : Hp} {b : Nat} {st st' : Sto} {d k e : D} {x y z : V} {Q : Hp → Prop} (R : RepS X.w X.K m H st) (rx : Rep X.K m H d x) (ry : Rep X.K m H k y) (rz : Rep X.K m H e z) (h : put1 b d k e st = some st')
    (q : ∀ H', To X.w X.K m H b st m H' st' → Q H') : rSetA X x y z H Q := by
  unfold put1 at h
  cases rx with
  | @ref n a ha =>
    dsimp only at h
    split at h
    · rename_i ds hg
      split at h
      · rename_i i
        split at h
        · rename_i j hj
          split at h
          · rename_i hf
            cases h
            cases ry
            obtain ⟨vs, h1, h2⟩ := R.lst ha hg
            refine .inl ⟨a, vs, i, j, rfl, rfl, h1, by rw [← h2.length]; exact hj, q _ (To.list R ha hg (h2.set rz j) ?_)⟩
            exact (fits_or hf).imp id fun w c hc => los_set (lo0 w) hc
          · cases h
        · cases h
      · cases h
    · rename_i kvs hg
      split at h
      · rename_i q' hq
        split at h
        · rename_i hf
          rw [Bool.and_eq_true, Nat.blt_eq] at hf
          cases h
          obtain ⟨xs, h1, h2⟩ := R.dkx ha hg
          have hy := key_kV hq ry
          subst hy
          refine .inr (.inl ⟨a, _, rfl, .k h1 (by rw [← paired_len h2]; exact Nat.lt_of_lt_of_le hf.1 (lim_line (Nat.le_refl _))), q _ ?_⟩)
          have nf := R.notfrz ha hg fun u z => nomatch z
          exact To.write R ha hg nf (.dk (Paired.mapP (dset_rel q' h2 rz) fun _ _ z => ⟨z.1, z.2.mono (Ext.write R ha nf)⟩)) ((fits_or hf.2).imp id fun w c hc => dset_lo (lo0 w) hc)
        · cases h
      · cases h
    · rename_i kvs hg
      split at h
      · rename_i ks
        split at h
        · rename_i hf
          rw [Bool.and_eq_true, Bool.and_eq_true, Nat.blt_eq] at hf
          cases h
          obtain ⟨xs, h1, g, h2⟩ := R.dgx ha hg
          cases ry with
          | @tup b' _ vs hs hl =>
            refine .inr (.inr ⟨m, a, b', xs, kvs, ks, rfl, rfl, h1, g, h2, .tup hs hl, hf.1.1, hf.1.2, q _ ?_⟩)
            have nf := R.notfrz ha hg fun u z => nomatch z
            have x := Ext.write (u := gdO X.w a (storedV xs ks b' z (gget ks kvs).isSome)) R ha nf
            exact To.write R ha hg nf (.dg (gset_gks hf.1.1 g) (Paired.mapP (gset_rel ks h2 (.tup hs hl) rz) fun _ _ z => ⟨z.1, z.2.1.mono x, z.2.2.mono x⟩)) ((fits_or hf.2).imp id fun w c hc => gset_lo hf.1.1 (lo0 w) hc)
        · cases h
      · cases h
    · cases h
  | _ => cases h
theorem pds_put {o i e : Expr} {fo fi fe : Ex} {pos tpos : Pos} (hu : X.A.units + 100 < cLine) (ho : PD X cl W o fo) (hi : PD X cl W i fi) (he : PD X cl W e fe)
    (ha : ∀ v, assign (.Subscript o i tpos) X.env v = (do
      let ov ← holding [v] (eval o X.env)
      let iv ← holding [v, ov] (eval i X.env)
      standAt tpos
      holding [v, ov, iv] (setItem ov iv v)
      release [v, ov, iv] []) := by intro _; rfl)
    (hs : swapsWithSole [.Subscript o i tpos] e pos.line X.env = pure false := by rfl) (hw : swappedStores [.Subscript o i tpos] e X.env = pure none := by rfl)
    (h1 : (assignEach [.Subscript o i tpos] X.env).map (·.2) = [assign (.Subscript o i tpos) X.env] := by rfl) : PDS X cl W (.Assign [.Subscript o i tpos] e pos) (sPut fo fi fe) := (ps_asg he (pg_sub ho hi (set_A hu) ha) hs hw h1).imp fun Dn σ H z => by
  obtain ⟨m, b, st, env, p, h⟩ := z
  unfold sPut at h
  cases e1 : fe b env st with
  | er x s =>
    rw [e1] at h
    refine ⟨m, b, st, env, p, ?_⟩
    rw [e1]
    exact fun c dx H' m' t rx => h c dx σ H' m' t (p.env.mono t.ext) rx
  | no => rw [e1] at h; exact h.elim
  | ok d s =>
    refine ⟨m, b, st, env, p, ?_⟩
    rw [e1]
    intro x1 H1 m1 t1 r1
    have p1 := p.to t1
    have h := PostS.shift h t1
    rw [e1] at h
    dsimp only [Rs.bind] at h
    refine ⟨m1, b, s, env, p1, ?_⟩
    cases e2 : fo b env s with
    | er x s =>
      rw [e2] at h
      exact fun c dx H' m' t rx => h c dx σ H' m' t (p1.env.mono t.ext) rx
    | no => rw [e2] at h; exact h.elim
    | ok d2 s2 =>
      intro x2 H2 m2 t2 r2
      have p2 := p1.to t2
      have h := PostS.shift h t2
      rw [e2] at h
      dsimp only at h
      refine ⟨m2, b, s2, env, p2, ?_⟩
      cases e3 : fi b env s2 with
      | er x s =>
        rw [e3] at h
        exact fun c dx H' m' t rx => h c dx σ H' m' t (p2.env.mono t.ext) rx
      | no => rw [e3] at h; exact h.elim
      | ok d3 s3 =>
        intro x3 H3 m3 t3 r3
        have p3 := p2.to t3
        have h := PostS.shift h t3
        rw [e3] at h
        dsimp only at h
        cases e4 : put1 b d2 d3 d s3 with
        | none => rw [e4] at h; exact h.elim
        | some s4 =>
          rw [e4] at h
          exact put_ok p3.rep (r2.mono t3.ext) r3 ((r1.mono t2.ext).mono t3.ext) e4 fun H4 t4 => h σ H4 m3 t4 (p3.env.mono t4.ext)

/-! ### {} -/
theorem pd_dk0 {pos : Pos} : PD X cl W (.Dict [] [] pos) cDk0 := pe_dnewK.imp fun σ H Q z => by
  obtain ⟨m, b, st, env, p, h⟩ := z
  intro a ha
  exact h _ _ _ (To.alloc p.rep p.le ha (.dk .nil)) (.ref Mp.add_self)
def tDNewG (w : World) : TE := fun _ H Q => ∀ p, H p = none → Q (.ref p) (upd H p (gdO w p []))
theorem pe_dnewG {pos : Pos} : PE X (.Dict [] [] pos) (tDNewG X.w) := ⟨fun pins s σ H Q I h => by
  refine wpAny_Dict_empty ⟨.ref s.heap.objs.size, _, I.laid (a := s.heap.objs.size) (o := gdO X.w s.heap.objs.size []) (t' := s.toks) (fun _ _ q => Heap.get?_push_of_some _ q) (Nat.le_refl _) ?_, rfl, h _ (I.hok.fresh (Nat.le_refl _))⟩
  exact gd_new (Nat.zero_le _) (beq_eq_false_iff_ne.mpr (Ne.symm (Nat.ne_of_lt I.big))) .nil .nil (Heap.DictOfH.new s.heap)⟩
theorem pd_dg0 {pos : Pos} : PD X cl W (.Dict [] [] pos) cDg0 := pe_dnewG.imp fun σ H Q z => by
  obtain ⟨m, b, st, env, p, h⟩ := z
  intro a ha
  exact h _ _ _ (To.alloc p.rep p.le ha (.dg (fun _ q => nomatch q) .nil)) (.ref Mp.add_self)
end
end DL
end S_DLv
section S_DLm
set_option Elab.async false
set_option linter.all false
set_option maxRecDepth 100000
set_option autoImplicit false
namespace DL
open PySem PySem.Spec PyProof.Rows L2

/-! ### methods -/
section
variable {X : Cx} {cl : Cls} {W : WX}
def Rv.nm : Rv → String
  | .lst => "list"
  | .dict => "dict"
/-- the method id of built-in type T asks of values what f reckons of their data -/
def SemM (X : Cx) (cl : Cls) (W : WX) (r : V → List V → Hp → VK → Prop) (f : Mf) : Prop := ∀ (m : Mp) (H : Hp) (b : Nat) (st : Sto) (σ : SV) (d : D) (x : V) (ds : List D) (xs : List V) (Q : VK), RepS X.w X.K m H st → b ≤ st.sz → Rep X.K m H d x → RepL X.K m H ds xs →
  PostE (gX X cl W) m H b st σ Q (f b d ds st) → r x xs H Q
theorem rv_type {pins : List (Addr × Obj)} {σ : L2.St} {m : Mp} {H : Hp} {s : Shared} {st : Sto} (I : Inv X pins σ H s) (R : RepS X.w X.K m H st) {k : Rv} {d : D} {x : V} {v : Value} (rd : Rep X.K m H d x) (rx : RelV x v) (h : isRv k d st = true) : s.TypeIs v k.nm ∧ ∀ a, v = .ref a → ∃ ob, s.heap.get? a = some ob ∧ ob.dict = none := by
  cases rd with
  | @ref n a ha =>
    cases rx
    cases k with
    | lst =>
      unfold isRv at h
      dsimp only at h
      cases e : st.list n with
      | none => rw [e] at h; cases h
      | some ds =>
        obtain ⟨vs, h1, _⟩ := R.list ha e
        obtain ⟨its, _, pl, _⟩ := I.list h1
        refine ⟨pl.isList.typeIs, fun c e => ?_⟩
        cases e
        obtain ⟨o, n, e, _, hd, _⟩ := pl
        exact ⟨o, e, hd⟩
    | dict =>
      obtain ⟨h1, o, h2, h3⟩ := look_type I R ha h
      refine ⟨h1, fun c e => ?_⟩
      cases e
      exact ⟨o, h2, h3⟩
  | _ => cases h
def tMt (K : PySem.W.Frag) (w : World) (k : Rv) (r : V → List V → Hp → VK → Prop) (to : TE) (t : TA) : TE := fun σ H Q => to σ H fun x H1 => (∃ (m : Mp) (st : Sto) (d : D), RepS w K m H1 st ∧ Rep K m H1 d x ∧ isRv k d st = true) ∧ t σ H1 fun xs H2 => r x xs H2 Q
variable {o e : Expr} {es : List Expr} {to : TE} {t : TA} {name : Str} {apos cpos : Pos} {k : Rv} {id : String} {r : V → List V → Hp → VK → Prop}
theorem pe_mt0D (pa : PlainAttrs k.nm) (slot : Slot k.nm name id) (hty : typeOf (.builtin id) = pure (.type "method_descriptor")) (hm : MtR X id r) (ho : PE X o to)
    (hbase : attributeBase o name X.env (eval o X.env) = eval o X.env := by rfl) (hline : (apos.endLine == cpos.line) = true := by rfl) : PE X (.Call (.Attribute o name apos) [] [] cpos) (tMt X.K X.w k r to tNil) := by
  refine ⟨fun pins s σ H Q I h => ?_⟩
  refine wpAny_Call_method0_late hbase hline (thn (ho.run pins s σ H _ I h) fun v s1 z => ?_)
  obtain ⟨x, H1, I1, r1, ⟨m, st, d, R, rd, hk⟩, q1⟩ := z
  obtain ⟨h1, h2⟩ := rv_type I1 R rd r1 hk
  exact ⟨k.nm, id, pa, slot, hty, h1, h2, Calls.callWith_builtin rfl (PySem.evalArgs_none (hm pins s1 σ H1 x [] v [] Q I1 r1 .nil q1))⟩
theorem pe_mtD (pa : PlainAttrs k.nm) (slot : Slot k.nm name id) (hty : typeOf (.builtin id) = pure (.type "method_descriptor")) (hm : MtR X id r) (ho : PE X o to) (ha : PA X (e :: es) t)
    (hbase : attributeBase o name X.env (eval o X.env) = eval o X.env := by rfl)
    (hfew : ((backTo cpos (starEach (e :: es) X.env)).all (fun x => !x.1) && (backToKw cpos (keywordEach [] X.env)).all (fun x => x.1.isSome)
      && decide ((e :: es).length + ([] : List Keyword).length + (if ([] : List Keyword).isEmpty then 0 else 1) < 30)) = true := by rfl)
    (hline : (apos.endLine == cpos.line) = true := by rfl) (hs : starEach (e :: es) X.env = (false, eval e X.env) :: starEach es X.env := by rfl) (hplain : (backTo cpos (starEach es X.env)).any (·.1) = false := by rfl) :
    PE X (.Call (.Attribute o name apos) (e :: es) [] cpos) (tMt X.K X.w k r to t) := by
  refine ⟨fun pins s σ H Q I h => ?_⟩
  refine wpAny_Call_method_late hbase hfew hline rfl (thn (ho.run pins s σ H _ I h) fun v s1 z => ?_)
  obtain ⟨x, H1, I1, r1, ⟨m, st, d, R, rd, hk⟩, q1⟩ := z
  obtain ⟨h1, h2⟩ := rv_type I1 R rd r1 hk
  refine ⟨k.nm, id, pa, slot, hty, h1, h2, ?_⟩
  have hA := ha.run cpos pins s1 σ H1 _ I1 q1
  rw [hs] at hA ⊢
  refine Calls.callWith_builtin (by show (false || (backTo cpos (starEach es X.env)).any (·.1)) = false; rw [hplain] <;> rfl) (Calls.evalArgs_plain ?_)
  refine thn hA fun us s2 z => ?_
  obtain ⟨vs, H2, I2, r2, q2⟩ := z
  exact hm pins s2 σ H2 x vs v us Q I2 r1 r2 q2
theorem mt_post {fo : Ex} {fa : Ar} {f : Mf} (hs : SemM X cl W r f) {σ : SV} {H : Hp} {Q : VK} (h : tE (gX X cl W) (cMt k f fo fa) σ H Q) : tMt X.K X.w k r (tE (gX X cl W) fo) (tA (gX X cl W) fa) σ H Q := by
  obtain ⟨m, b, st, env, p, h⟩ := h
  refine ⟨m, b, st, env, p, (PostA.bind (R := Rep X.K) h).imp fun x H1 z => ?_⟩
  obtain ⟨m1, st1, d, t1, r1, h1⟩ := z
  have p1 := p.to t1
  split at h1
  · rename_i hk
    refine ⟨⟨m1, st1, d, p1.rep, r1, hk⟩, m1, b, st1, env, p1, (PostA.bind (R := RepL X.K) h1).imp fun xs H2 z => ?_⟩
    obtain ⟨m2, st2, ds, t2, r2, h2⟩ := z
    have p2 := p1.to t2
    exact hs m2 H2 b st2 σ d x ds xs Q p2.rep p2.le (r1.mono t2.ext) r2 h2
  · exact h1.elim
theorem pd_mt {fo : Ex} {fa : Ar} {f : Mf} (k : Rv) (pa : PlainAttrs k.nm) (slot : Slot k.nm name id) (hty : typeOf (.builtin id) = pure (.type "method_descriptor")) (hm : MtR X id r) (hs : SemM X cl W r f) (ho : PD X cl W o fo) (ha : PDA X cl W (e :: es) fa)
    (hbase : attributeBase o name X.env (eval o X.env) = eval o X.env := by rfl)
    (hfew : ((backTo cpos (starEach (e :: es) X.env)).all (fun x => !x.1) && (backToKw cpos (keywordEach [] X.env)).all (fun x => x.1.isSome)
      && decide ((e :: es).length + ([] : List Keyword).length + (if ([] : List Keyword).isEmpty then 0 else 1) < 30)) = true := by rfl)
    (hline : (apos.endLine == cpos.line) = true := by rfl) (hst : starEach (e :: es) X.env = (false, eval e X.env) :: starEach es X.env := by rfl) (hplain : (backTo cpos (starEach es X.env)).any (·.1) = false := by rfl) :
    PD X cl W (.Call (.Attribute o name apos) (e :: es) [] cpos) (cMt k f fo fa) := (pe_mtD pa slot hty hm ho ha hbase hfew hline hst hplain).imp fun σ H Q h => mt_post hs h
theorem pd_mt0 {fo : Ex} {f : Mf} (k : Rv) (pa : PlainAttrs k.nm) (slot : Slot k.nm name id) (hty : typeOf (.builtin id) = pure (.type "method_descriptor")) (hm : MtR X id r) (hs : SemM X cl W r f) (ho : PD X cl W o fo)
    (hbase : attributeBase o name X.env (eval o X.env) = eval o X.env := by rfl) (hline : (apos.endLine == cpos.line) = true := by rfl) : PD X cl W (.Call (.Attribute o name apos) [] [] cpos) (cMt k f fo cNilA) := (pe_mt0D pa slot hty hm ho hbase hline).imp fun σ H Q h => by
  obtain ⟨m, b, st, env, p, h⟩ := h
  refine ⟨m, b, st, env, p, (PostA.bind (R := Rep X.K) h).imp fun x H1 z => ?_⟩
  obtain ⟨m1, st1, d, t1, r1, h1⟩ := z
  have p1 := p.to t1
  split at h1
  · rename_i hk
    refine ⟨⟨m1, st1, d, p1.rep, r1, hk⟩, ?_⟩
    exact hs m1 H1 b st1 σ d x [] [] Q p1.rep p1.le r1 .nil h1
  · exact h1.elim

theorem mm_append : SemM X cl W rAppend mAppend := by
  intro m H b st σ d x ds xs Q R hb rx rs h
  unfold mAppend at h
  split at h
  · cases rx with
    | ref ha =>
      split at h
      · cases rs with
        | cons r1 r2 =>
          cases r2
          split at h
          · rename_i ds hg
            split at h
            · rename_i hf
              rw [Bool.and_eq_true, Nat.blt_eq] at hf
              obtain ⟨vs, h1, h2⟩ := R.lst ha hg
              refine ⟨_, vs, _, rfl, rfl, h1, by rw [← h2.length]; exact Nat.lt_of_lt_of_le hf.1 (lim_line (Nat.le_refl _)), ?_⟩
              exact h .non _ m (To.list R ha hg (h2.append (.cons r1 .nil)) ((fits_or hf.2).imp id fun w c hc => los_append hc (by show (_ && true) = true; rw [Bool.and_true]; exact lo0 w))) .non
            · exact h.elim
          · exact h.elim
      · exact h.elim
  · exact h.elim
theorem mm_pop : SemM X cl W rPop mPop := by
  intro m H b st σ d x ds xs Q R hb rx rs h
  unfold mPop at h
  split at h
  · cases rx with
    | ref ha =>
      split at h
      · cases rs
        split at h
        · rename_i ds hg
          split at h
          · rename_i e he
            obtain ⟨vs, h1, h2⟩ := R.lst ha hg
            obtain ⟨v, h3, h4⟩ := h2.get (i := ds.length - 1) he
            refine ⟨_, vs, v, rfl, rfl, h1, by rw [← h2.length]; exact h3, ?_⟩
            have e1 : ds.dropLast = ds.take (ds.length - 1) := List.dropLast_eq_take
            have e2 : vs.dropLast = vs.take (ds.length - 1) := by rw [List.dropLast_eq_take, h2.length]
            rw [e2]
            rw [e1] at h
            have t := To.list (b := b) R ha hg (h2.take (ds.length - 1)) (.inr fun c hc => los_sub (fun d hd => List.mem_of_mem_take hd) hc)
            exact h v _ m t (h4.mono t.ext)
          · exact h.elim
        · exact h.elim
      · exact h.elim
  · exact h.elim
theorem rep_erase {K : PySem.W.Frag} {m : Mp} {H : Hp} : ∀ {ds : List D} {vs : List V} (i : Nat), RepL K m H ds vs → RepL K m H (ds.eraseIdx i) (vs.eraseIdx i)
  | _, _, _, .nil => .nil
  | _, _, 0, .cons _ r => r
  | _, _, i + 1, .cons h r => .cons h (rep_erase i r)
theorem mm_popAt : SemM X cl W rPopAt mPopAt := by
  intro m H b st σ d x ds xs Q R hb rx rs h
  unfold mPopAt at h
  split at h
  · cases rx with
    | ref ha =>
      split at h
      · rename_i i
        cases rs with
        | cons r1 r2 =>
          cases r2
          cases r1
          split at h
          · rename_i ds hg
            split at h
            · rename_i hr
              split at h
              · rename_i k hk
                split at h
                · rename_i e he
                  obtain ⟨vs, h1, h2⟩ := R.lst ha hg
                  obtain ⟨v, h3, h4⟩ := h2.get (i := k) he
                  have hb2 := rg_ok hr
                  refine ⟨_, vs, i, k, v, rfl, rfl, h1, by omega, by omega, by rw [← h2.length]; exact hk, h3, ?_⟩
                  have t := To.list (b := b) R ha hg (rep_erase k h2) (.inr fun c hc => los_sub (fun d hd => List.mem_of_mem_eraseIdx hd) hc)
                  exact h v _ m t (h4.mono t.ext)
                · exact h.elim
              · exact h.elim
            · exact h.elim
          · exact h.elim
      · exact h.elim
  · exact h.elim
theorem mm_extend : SemM X cl W rExtend mExtend := by
  intro m H b st σ d x ds xs Q R hb rx rs h
  unfold mExtend at h
  split at h
  · cases rx with
    | ref ha =>
      split at h
      · cases rs with
        | cons r1 r2 =>
          cases r2
          cases r1 with
          | ref hc =>
            split at h
            · rename_i ds hg
              split at h
              · rename_i es hg2
                split at h
                · rename_i hf
                  rw [Bool.and_eq_true, Nat.ble_eq, Bool.or_eq_true, Nat.ble_eq] at hf
                  obtain ⟨vs, h1, h2⟩ := R.lst ha hg
                  obtain ⟨ws, g1, g2⟩ := R.lst hc hg2
                  refine ⟨_, _, vs, ws, rfl, rfl, h1, g1, by rw [← h2.length, ← g2.length]; exact lim_line hf.1, ?_⟩
                  exact h .non _ m (To.list R ha hg (h2.append g2) (hf.2.imp id fun w c hc => los_append hc (los_mono (Nat.zero_le _) _ w))) .non
                · exact h.elim
              · exact h.elim
            · exact h.elim
      · exact h.elim
  · exact h.elim
def rInsert : V → List V → Hp → VK → Prop := fun x vs H Q => ∃ (l : Addr) (xs : List V) (i : Int) (y : V), x = .ref l ∧ vs = [.int i, y] ∧ H l = some (.lst xs) ∧ xs.length < sizeLine ∧ 0 ≤ i ∧ i < 2 ^ 63 ∧
    Q .non (upd H l (.lst (xs.take i.toNat ++ [y] ++ xs.drop i.toNat)))
theorem mt_insertA : MtR X "list.insert" rInsert := mt_insert
theorem mm_insert : SemM X cl W rInsert mInsert := by
  intro m H b st σ d x ds xs Q R hb rx rs h
  unfold mInsert at h
  split at h
  · cases rx with
    | ref ha =>
      split at h
      · rename_i i e
        cases rs with
        | cons r1 r2 =>
          cases r2 with
          | cons r2 r3 =>
            cases r3
            cases r1
            split at h
            · rename_i ds hg
              split at h
              · rename_i hf
                rw [Bool.and_eq_true, Bool.and_eq_true, Bool.and_eq_true, Nat.blt_eq] at hf
                obtain ⟨vs, h1, h2⟩ := R.lst ha hg
                have hb2 := rg_ok hf.1.1.2
                refine ⟨_, vs, i, _, rfl, rfl, h1, by rw [← h2.length]; exact Nat.lt_of_lt_of_le hf.1.2 (lim_line (Nat.le_refl _)), of_decide_eq_true hf.1.1.1, by omega, ?_⟩
                refine h .non _ m (To.list R ha hg (((h2.take _).append (.cons r2 .nil)).append (h2.drop _)) ((fits_or hf.2).imp id fun w c hc => ?_)) .non
                refine los_append (los_append (los_sub (fun d hd => List.mem_of_mem_take hd) hc) ?_) (los_sub (fun d hd => List.mem_of_mem_drop hd) hc)
                show (_ && true) = true
                rw [Bool.and_true]
                exact lo0 w
              · exact h.elim
            · exact h.elim
      · exact h.elim
  · exact h.elim

/-! ### d.get -/
def rGet1 (X : Cx) : V → List V → Hp → VK → Prop := fun x xs H Q => ∃ (m : Mp) (st : Sto) (n : Nat) (a : Addr) (k : D) (y : V) (o : Option D), RepS X.w X.K m H st ∧ x = .ref a ∧ xs = [y] ∧ m n = some a ∧ Rep X.K m H k y ∧ look st n k = some o ∧ OptK (fun d => ∀ v, Rep X.K m H d v → Q v H) (Q .non H) o
def rGet2 (X : Cx) : V → List V → Hp → VK → Prop := fun x xs H Q => ∃ (m : Mp) (st : Sto) (n : Nat) (a : Addr) (k : D) (y z : V) (o : Option D), RepS X.w X.K m H st ∧ x = .ref a ∧ xs = [y, z] ∧ m n = some a ∧ Rep X.K m H k y ∧ look st n k = some o ∧ OptK (fun d => ∀ v, Rep X.K m H d v → Q v H) (Q z H) o
theorem mt_get1 (hu : X.A.units + 100 < cLine) : MtR X "dict.get" (rGet1 X) := by
  intro pins s σ H x xs v us Q I rx rv h
  obtain ⟨m, st, n, a, k, y, o, R, rfl, rfl, ha, rk, hl, q⟩ := h
  obtain rfl : v = Value.ref a := rx
  obtain ⟨u, rfl, ru⟩ := rv.one
  rcases look_cases I R ha rk ru hl with ⟨g, h1, h2⟩ | ⟨ks, b, ys, rfl, rfl, h1, h2, h3, h4, h5⟩
  · refine d_get1 (by omega) I h1 ru fun w' s' I' rw' => ?_
    cases o with
    | some d =>
      obtain ⟨v, rfl, rd⟩ := h2
      exact ⟨v, H, I', rw', q v rd⟩
    | none =>
      have h2 : g = none := h2
      subst h2
      exact ⟨.non, H, I', rw', q⟩
  · cases ru
    refine call_meetsIn PySem.F.slot_dict_get h4.typeIs PySem.F.entry_dict_get (PySem.F.args_dict_get_2 _ _) (meetsH_dict_get (gKind X.prog X.w) a b h1) ⟨gRoom hu, ks, ys, h3, h4, ?_⟩
    cases o with
    | some d =>
      obtain ⟨p, v, e, rd, rv'⟩ := h5
      rw [e]
      exact ⟨v, H, I.tok _, rv', q v rd⟩
    | none =>
      have h5 : atKey ys ks = none := h5
      rw [h5]
      exact ⟨.non, H, I.tok _, rfl, q⟩
theorem mt_get2 (hu : X.A.units + 100 < cLine) : MtR X "dict.get" (rGet2 X) := by
  intro pins s σ H x xs v us Q I rx rv h
  obtain ⟨m, st, n, a, k, y, z, o, R, rfl, rfl, ha, rk, hl, q⟩ := h
  obtain rfl : v = Value.ref a := rx
  obtain ⟨u, u2, rfl, ru, ru2⟩ := rv.two
  rcases look_cases I R ha rk ru hl with ⟨g, h1, h2⟩ | ⟨ks, b, ys, rfl, rfl, h1, h2, h3, h4, h5⟩
  · refine d_get2 (by omega) I h1 ru ru2 fun w' s' I' rw' => ?_
    cases o with
    | some d =>
      obtain ⟨v, rfl, rd⟩ := h2
      exact ⟨v, H, I', rw', q v rd⟩
    | none =>
      have h2 : g = none := h2
      subst h2
      exact ⟨z, H, I', rw', q⟩
  · cases ru
    refine call_meetsIn PySem.F.slot_dict_get h4.typeIs PySem.F.entry_dict_get (PySem.F.args_dict_get_3 _ _ _) (meetsH_dict_get_default (gKind X.prog X.w) a b h1 u2) ⟨gRoom hu, ks, ys, h3, h4, ?_⟩
    cases o with
    | some d =>
      obtain ⟨p, v, e, rd, rv'⟩ := h5
      rw [e]
      exact ⟨v, H, I.tok _, rv', q v rd⟩
    | none =>
      have h5 : atKey ys ks = none := h5
      rw [h5]
      exact ⟨z, H, I.tok _, ru2, q⟩
theorem mm_get1 : SemM X cl W (rGet1 X) mGet1 := by
  intro m H b st σ d x ds xs Q R hb rx rs h
  unfold mGet1 at h
  split at h
  · rename_i n
    cases rx with
    | ref ha =>
      split at h
      · rename_i k
        cases rs with
        | cons r1 r2 =>
          cases r2
          split at h
          · rename_i d hd
            exact ⟨m, st, n, _, k, _, some d, R, rfl, rfl, ha, r1, hd, fun v rv => PostA.put (R := Rep X.K) h R rv⟩
          · rename_i hd
            exact ⟨m, st, n, _, k, _, none, R, rfl, rfl, ha, r1, hd, PostA.put (R := Rep X.K) (v := .non) h R .non⟩
          · exact h.elim
      · exact h.elim
  · exact h.elim
theorem mm_get2 : SemM X cl W (rGet2 X) mGet2 := by
  intro m H b st σ d x ds xs Q R hb rx rs h
  unfold mGet2 at h
  split at h
  · rename_i n
    cases rx with
    | ref ha =>
      split at h
      · rename_i k e
        cases rs with
        | cons r1 r2 =>
          cases r2 with
          | cons r2 r3 =>
            cases r3
            split at h
            · rename_i d hd
              exact ⟨m, st, n, _, k, _, _, some d, R, rfl, rfl, ha, r1, hd, fun v rv => PostA.put (R := Rep X.K) h R rv⟩
            · rename_i hd
              exact ⟨m, st, n, _, k, _, _, none, R, rfl, rfl, ha, r1, hd, PostA.put (R := Rep X.K) h R r2⟩
            · exact h.elim
      · exact h.elim
  · exact h.elim
end
end DL
end S_DLm
section S_DLn
set_option Elab.async false
set_option linter.all false
set_option maxRecDepth 100000
set_option autoImplicit false
namespace DL
open PySem PySem.Spec PyProof.Rows L2

/-! ### a, b = x, y -/
section
variable {X : Cx} {cl : Cls} {W : WX}
theorem pds_par {i j : Nat} {x y : Str} {a b : Expr} {fa : Ar} {px py pt pos : Pos} {kt k2 : Nat} {pt2 : Pos} (hc : X.calm = true) (hN : X.N.Nodup) (hi : X.N[i]? = some x) (hj : X.N[j]? = some y) (hij : i ≠ j)
    (hx : X.env.scope.names.lookup x = some .local) (hy : X.env.scope.names.lookup y = some .local) (ha : PDA X cl W [a, b] fa)
    (hw : swappedStores [.Tuple [.Name x px, .Name y py] kt pt] (.Tuple [a, b] k2 pt2) X.env = pure (some [x, y]))
    (hs : swapsWithSole [.Tuple [.Name x px, .Name y py] kt pt] (.Tuple [a, b] k2 pt2) pos.line X.env = pure false := by rfl) :
    PDS X cl W (.Assign [.Tuple [.Name x px, .Name y py] kt pt] (.Tuple [a, b] k2 pt2) pos) (sPar [i, j] fa) := (ps_par hc hN hi hj hij hx hy ha hw hs).imp fun Dn σ H z => by
  obtain ⟨m, b', st, env, p, h⟩ := z
  refine ⟨m, b', st, env, p, ?_⟩
  unfold sPar at h
  cases e1 : fa b' env st with
  | er x s =>
    rw [e1] at h
    exact fun c dx H' m' t rx => h c dx σ H' m' t (p.env.mono t.ext) rx
  | no => rw [e1] at h; exact h
  | ok ds s =>
    rw [e1] at h
    dsimp only at h
    intro xs H1 m1 t1 r1
    split at h
    · rename_i hl
      match ds, xs, r1 with
      | [d1, d2], _, .cons q1 (.cons q2 .nil) => exact ⟨_, _, rfl, h _ H1 m1 t1 (((p.env.mono t1.ext).set i q1).set j q2)⟩
      | [], _, _ => cases hl
      | [_], _, _ => cases hl
      | _ :: _ :: _ :: _, _, _ => cases hl
    · exact h.elim
theorem pds_par3 {i j l : Nat} {x y z : Str} {a b c : Expr} {fa : Ar} {px py pz pt pos : Pos} {kt k2 : Nat} {pt2 : Pos} (hc : X.calm = true) (hN : X.N.Nodup) (hi : X.N[i]? = some x) (hj : X.N[j]? = some y) (hl : X.N[l]? = some z) (hij : i ≠ j) (hil : i ≠ l) (hjl : j ≠ l)
    (hx : X.env.scope.names.lookup x = some .local) (hy : X.env.scope.names.lookup y = some .local) (hz : X.env.scope.names.lookup z = some .local) (ha : PDA X cl W [a, b, c] fa)
    (hw : swappedStores [.Tuple [.Name x px, .Name y py, .Name z pz] kt pt] (.Tuple [a, b, c] k2 pt2) X.env = pure (some [x, y, z]))
    (hs : swapsWithSole [.Tuple [.Name x px, .Name y py, .Name z pz] kt pt] (.Tuple [a, b, c] k2 pt2) pos.line X.env = pure false := by rfl) :
    PDS X cl W (.Assign [.Tuple [.Name x px, .Name y py, .Name z pz] kt pt] (.Tuple [a, b, c] k2 pt2) pos) (sPar [i, j, l] fa) := (ps_par3 hc hN hi hj hl hij hil hjl hx hy hz ha hw hs).imp fun Dn σ H w => by
  obtain ⟨m, b', st, env, p, h⟩ := w
  refine ⟨m, b', st, env, p, ?_⟩
  unfold sPar at h
  cases e1 : fa b' env st with
  | er x s =>
    rw [e1] at h
    exact fun c dx H' m' t rx => h c dx σ H' m' t (p.env.mono t.ext) rx
  | no => rw [e1] at h; exact h
  | ok ds s =>
    rw [e1] at h
    dsimp only at h
    intro xs H1 m1 t1 r1
    split at h
    · rename_i hl
      match ds, xs, r1 with
      | [d1, d2, d3], _, .cons q1 (.cons q2 (.cons q3 .nil)) => exact ⟨_, _, _, rfl, h _ H1 m1 t1 ((((p.env.mono t1.ext).set i q1).set j q2).set l q3)⟩
      | [], _, _ => cases hl
      | [_], _, _ => cases hl
      | [_, _], _, _ => cases hl
      | _ :: _ :: _ :: _ :: _, _, _ => cases hl
    · exact h.elim

/-! ### a[i] op= e -/
theorem get_st (hu : X.A.units + 100 < cLine) : PGet X (rIxSt X) := by
  intro pins s σ H x y v u Q I rx ry h
  obtain ⟨m, st, n, a, k, d, R, rfl, ha, rk, hl, q⟩ := h
  obtain rfl : v = Value.ref a := rx
  exact look_get hu I R ha rk ry hl fun v w' s' rd rw' I' => ⟨v, H, I', rw', q v rd⟩
theorem get_lst : PGet X (rIxL X.K) := by
  intro pins s σ H x y v u Q I rx ry h
  obtain ⟨p, xs, i, z, rfl, rfl, hq, he, q⟩ := h
  cases rx
  obtain ⟨t, rfl⟩ := ry
  obtain ⟨its, r, pl, hz⟩ := I.list hq
  obtain ⟨j, h1, h2, h3, h4, h5⟩ := atI_get he
  obtain ⟨w, ew, rw'⟩ := r.get h2
  have hn := line63
  have hl := r.length
  have fin : EP X pins σ Q w s := ⟨z, H, I, rw', q⟩
  by_cases h0 : 0 ≤ i
  · have hj : i.toNat = j := by
      rw [seqIndex_of h0 h5] at h1
      exact Option.some.inj h1
    exact wpAny_getItem_list pl.isList h0 (by omega) (by rw [hj]; simpa using ew) fin
  · have hj : (i + (its.toArray.size : Int)).toNat = j := by
      rw [seqIndex_neg (by omega) h4] at h1
      rw [List.size_toArray, ← hl]
      exact Option.some.inj h1
    exact wpAny_getItem_list_neg pl.isList (by omega) (by rw [List.size_toArray] <;> omega) (by omega) (by rw [hj]; simpa using ew) fin
def rGetA (X : Cx) : V → V → Hp → VK → Prop := fun x y H Q => rIxL X.K x y H Q ∨ rIxSt X x y H Q
theorem get_A (hu : X.A.units + 100 < cLine) : PGet X (rGetA X) := fun pins s σ H o i ov iv Q I ro ri h => h.elim (get_lst pins s σ H o i ov iv Q I ro ri) (get_st hu pins s σ H o i ov iv Q I ro ri)
theorem m_get {m : Mp} {H : Hp} {st : Sto} {d e d' : D} {x y : V} {Q : VK} (R : RepS X.w X.K m H st) (rx : Rep X.K m H d x) (ry : Rep X.K m H e y) (h : gIx d e st = some d') (q : ∀ v, Rep X.K m H d' v → Q v H) : rGetA X x y H Q := by
  unfold gIx at h
  cases rx with
  | @ref n a ha =>
    dsimp only at h
    split at h
    · rename_i ds hl
      obtain ⟨vs, h1, h2⟩ := R.list ha hl
      cases ry with
      | int i =>
        obtain ⟨v, h3, h4⟩ := atI_rep h2 h
        exact .inl ⟨_, _, i, v, rfl, rfl, h1, h3, q v h4⟩
      | _ => cases h
    · split at h
      · rename_i d' hd
        cases h
        exact .inr ⟨m, st, n, a, e, _, R, rfl, ha, ry, hd, q⟩
      · cases h
  | _ => cases h
/-- in-place operators of ints -/
def oAddI : D → D → Sto → Rs D
  | .int i, .int j, st => .ok (.int (i + j)) st
  | _, _, _ => .no
def oDivI : D → D → Sto → Rs D
  | .int i, .int j, st => if (decide (0 < j) && decide (j < 1073741824)) = true then .ok (.int (i / j)) st else .no
  | _, _, _ => .no
theorem m_addI : Sem2 X cl W (rI0 fun i j => .int (i + j)) oAddI := s2_int0 (hh := fun i j => .int (i + j)) (fun d e st => by
  cases d <;> cases e <;> first | exact .inr rfl | exact .inl ⟨_, _, rfl, rfl, rfl⟩) fun i j m H => .int _
theorem m_divI : Sem2 X cl W (rI CDiv fun i j => .int (i / j)) oDivI := by
  intro m H b st σ d e x y Q R hb rx ry h
  unfold oDivI at h
  split at h
  · split at h
    · rename_i hc
      rw [Bool.and_eq_true] at hc
      cases rx
      cases ry
      exact ⟨_, _, rfl, rfl, ⟨of_decide_eq_true hc.1, of_decide_eq_true hc.2⟩, PostA.put (R := Rep X.K) h R (.int _)⟩
    · exact h.elim
  · exact h.elim
theorem pds_augS {o i e : Expr} {op : Operator} {fo fi fe : Ex} {pos tpos : Pos} {ti : TIp} {q : D → D → Sto → Rs D} (hu : X.A.units + 100 < cLine) (ho : PD X cl W o fo) (hi : PD X cl W i fi) (he : PD X cl W e fe) (hp : PIp X op ti) (hq : Sem2 X cl W ti q)
    (ha : ∀ ov iv new, augStore i ov iv new = (do holding [new, ov, iv] (setItem ov iv new); release [new, ov, iv] []; pure .next) := by intros; rfl) : PDS X cl W (.AugAssign (.Subscript o i tpos) op e pos) (sAugIx q fo fi fe) := (ps_augS ho hi (get_A hu) he hp (set_A hu) ha).imp fun Dn σ H z => by
  obtain ⟨m, b, st, env, p, h⟩ := z
  unfold sAugIx at h
  cases e1 : fo b env st with
  | er x s =>
    rw [e1] at h
    refine ⟨m, b, st, env, p, ?_⟩
    rw [e1]
    exact fun c dx H' m' t rx => h c dx σ H' m' t (p.env.mono t.ext) rx
  | no => rw [e1] at h; exact h.elim
  | ok d s =>
    refine ⟨m, b, st, env, p, ?_⟩
    rw [e1]
    intro x1 H1 m1 t1 r1
    have p1 := p.to t1
    have h := PostS.shift h t1
    rw [e1] at h
    dsimp only [Rs.bind] at h
    refine ⟨m1, b, s, env, p1, ?_⟩
    cases e2 : fi b env s with
    | er x s =>
      rw [e2] at h
      exact fun c dx H' m' t rx => h c dx σ H' m' t (p1.env.mono t.ext) rx
    | no => rw [e2] at h; exact h.elim
    | ok d2 s2 =>
      intro x2 H2 m2 t2 r2
      have p2 := p1.to t2
      have h := PostS.shift h t2
      rw [e2] at h
      dsimp only at h
      have r1' := r1.mono t2.ext
      cases e3 : gIx d d2 s2 with
      | none => rw [e3] at h; exact h.elim
      | some d3 =>
        rw [e3] at h
        dsimp only at h
        refine m_get p2.rep r1' r2 e3 fun x3 r3 => ?_
        refine ⟨m2, b, s2, env, p2, ?_⟩
        cases e4 : fe b env s2 with
        | er x s =>
          rw [e4] at h
          exact fun c dx H' m' t rx => h c dx σ H' m' t (p2.env.mono t.ext) rx
        | no => rw [e4] at h; exact h.elim
        | ok d4 s4 =>
          intro x4 H4 m4 t4 r4
          have p4 := p2.to t4
          have h := PostS.shift h t4
          rw [e4] at h
          dsimp only at h
          refine hq m4 H4 b s4 σ d3 d4 x3 x4 _ p4.rep p4.le (r3.mono t4.ext) r4 ?_
          cases e5 : q d3 d4 s4 with
          | er x s =>
            rw [e5] at h
            exact fun c dx H' m' t rx => h c dx σ H' m' t (p4.env.mono t.ext) rx
          | no => rw [e5] at h; exact h.elim
          | ok d5 s5 =>
            rw [e5] at h
            intro x5 H5 m5 t5 r5
            have p5 := p4.to t5
            have h := PostS.shift h t5
            dsimp only at h
            cases e6 : put1 b d d2 d5 s5 with
            | none => rw [e6] at h; exact h.elim
            | some s6 =>
              rw [e6] at h
              exact put_ok p5.rep ((r1'.mono t4.ext).mono t5.ext) ((r2.mono t4.ext).mono t5.ext) r5 e6 fun H6 t6 => h σ H6 m5 t6 (p5.env.mono t6.ext)
end
end DL
end S_DLn
section S_DLx
set_option Elab.async false
set_option linter.all false
set_option maxRecDepth 100000
set_option autoImplicit false
namespace DL
open PySem PySem.Spec PyProof.Rows L2

/-! ### sorted -/
section
open Classical in
noncomputable def kdOf (h : Heap) (v : Value) : D := if q : ∃ d, GK h d v then q.choose else .non
theorem kdOf_eq {h : Heap} {d : D} {v : Value} (g : GK h d v) : kdOf h v = d := by
  have q : ∃ d, GK h d v := ⟨d, g⟩
  unfold kdOf
  rw [dif_pos q]
  exact GK.inj q.choose_spec g
def bkV : Value → V
  | .int i _ => .int i
  | .str x _ => .str x
  | .ref a => .ref a
  | _ => .non
theorem gk_bk {h : Heap} {d : D} {v : Value} {x : V} (g : GK h d v) (r : RelV x v) : bkV v = x := by
  cases g with
  | int i t =>
    cases x with
    | int j =>
      obtain ⟨t', e⟩ := r
      cases e
      rfl
    | str _ => obtain ⟨t', e⟩ := r; cases e
    | byt _ => obtain ⟨t', e⟩ := r; cases e
    | flt _ => obtain ⟨t', e⟩ := r; cases e
    | _ => cases r
  | str z t =>
    cases x with
    | str j =>
      obtain ⟨t', e⟩ := r
      cases e
      rfl
    | int _ => obtain ⟨t', e⟩ := r; cases e
    | byt _ => obtain ⟨t', e⟩ := r; cases e
    | flt _ => obtain ⟨t', e⟩ := r; cases e
    | _ => cases r
  | tup _ _ _ _ =>
    cases x with
    | ref a => cases r; rfl
    | int _ => obtain ⟨t', e⟩ := r; cases e
    | str _ => obtain ⟨t', e⟩ := r; cases e
    | byt _ => obtain ⟨t', e⟩ := r; cases e
    | flt _ => obtain ⟨t', e⟩ := r; cases e
    | _ => cases r
theorem gk_rel {h : Heap} {d : D} {v : Value} (g : GK h d v) : RelV (bkV v) v := by
  cases g with
  | int i t => exact ⟨t, rfl⟩
  | str z t => exact ⟨t, rfl⟩
  | tup _ _ _ _ => rfl
theorem gks_mem {h : Heap} : ∀ {ds : List D} {vs : List Value}, GKs h ds vs → ∀ v ∈ vs, ∃ d ∈ ds, GK h d v
  | _, _, .nil, v, hv => by simp at hv
  | _, _, .cons a b, v, hv => by
    rcases List.mem_cons.mp hv with e | hv
    · subst e
      exact ⟨_, List.mem_cons_self, a⟩
    · obtain ⟨d, hd, g⟩ := gks_mem b v hv
      exact ⟨d, List.mem_cons_of_mem _ hd, g⟩
theorem gks_kd {h : Heap} : ∀ {ds : List D} {vs : List Value}, GKs h ds vs → vs.map (kdOf h) = ds
  | _, _, .nil => rfl
  | _, _, .cons a b => by rw [List.map_cons, kdOf_eq a, gks_kd b]
theorem gks_keeps {h h' : Heap} : ∀ {ds : List D} {vs : List Value}, (∀ b o, h.get? b = some o → o.cls = .type "tuple" → h'.get? b = some o) → GKs h ds vs → GKs h' ds vs := by
  have both : ∀ (n : Nat) (d : D) (v : Value), sizeOf d ≤ n → (∀ b o, h.get? b = some o → o.cls = .type "tuple" → h'.get? b = some o) → GK h d v → GK h' d v := by
    intro n
    induction n with
    | zero =>
      intro d v hn k g
      cases d <;> simp at hn
    | succ n ih =>
      intro d v hn k g
      cases g with
      | int i t => exact .int i t
      | str x t => exact .str x t
      | @tup a o items m ds ho hc hd hi =>
        have all : ∀ {es : List D} {vs : List Value}, (∀ e ∈ es, sizeOf e ≤ n) → GKs h es vs → GKs h' es vs := by
          intro es
          induction es with
          | nil =>
            intro vs _ g
            cases g
            exact .nil
          | cons e es ihe =>
            intro vs q g
            cases g with
            | cons a b => exact .cons (ih e _ (q e List.mem_cons_self) k a) (ihe (fun e he => q e (List.mem_cons_of_mem _ he)) b)
        refine .tup (k _ _ ho hc) hc hd (all (fun e he => ?_) hi)
        have := List.sizeOf_lt_of_mem he
        simp at hn
        omega
  intro ds
  induction ds with
  | nil =>
    intro vs _ g
    cases g
    exact .nil
  | cons d ds ih =>
    intro vs k g
    cases g with
    | cons a b => exact .cons (both _ d _ (Nat.le_refl _) k a) (ih k b)
theorem cmpAll_ok : ∀ {ds : List D}, cmpAll ds = true → ∀ d ∈ ds, ∀ e ∈ ds, cmpb d e = true ∨ d = e := by
  have sym : ∀ d e : D, cmpb d e = true → cmpb e d = true := by
    have both : ∀ (n : Nat) (d e : D), sizeOf d ≤ n → cmpb d e = true → cmpb e d = true := by
      intro n
      induction n with
      | zero =>
        intro d e hn
        cases d <;> simp at hn
      | succ n ih =>
        intro d e hn h
        cases d with
        | tup xs =>
          cases e with
          | tup ys =>
            have all : ∀ (xs ys : List D), (∀ x ∈ xs, sizeOf x ≤ n) → cmpbs xs ys = true → cmpbs ys xs = true := by
              intro xs
              induction xs with
              | nil =>
                intro ys _ _
                cases ys <;> rfl
              | cons x xs ihx =>
                intro ys q h
                cases ys with
                | nil => rfl
                | cons y ys =>
                  rw [cmpbs_cons] at h ⊢
                  by_cases hb : D.beq x y = true
                  · rw [if_pos hb] at h
                    rw [if_pos (by rw [(beq_iff x y).mp hb]; exact beq_self y)]
                    exact ihx ys (fun x hx => q x (List.mem_cons_of_mem _ hx)) h
                  · rw [if_neg hb] at h
                    rw [if_neg (fun z => hb (by rw [(beq_iff y x).mp z]; exact beq_self x))]
                    exact ih x y (q x List.mem_cons_self) h
            exact all xs ys (fun x hx => by
              have := List.sizeOf_lt_of_mem hx
              simp at hn
              omega) h
          | _ => cases h
        | int i => cases e <;> first | exact h | cases h
        | str i => cases e <;> first | exact h | cases h
        | _ => cases h
    exact fun d e => both _ d e (Nat.le_refl _)
  intro ds
  induction ds with
  | nil => exact fun _ d hd => by simp at hd
  | cons c ds ih =>
    intro h
    unfold cmpAll at h
    rw [Bool.and_eq_true, List.all_eq_true] at h
    have one : ∀ e ∈ ds, cmpb c e = true ∨ c = e := fun e he => by
      have := h.1 e he
      rw [Bool.or_eq_true] at this
      exact this.imp id fun z => (beq_iff c e).mp z
    intro d hd e he
    rcases List.mem_cons.mp hd with q1 | hd
    · rcases List.mem_cons.mp he with q2 | he
      · exact .inr (q1.trans q2.symm)
      · rw [q1]
        exact one e he
    · rcases List.mem_cons.mp he with q2 | he
      · rw [q2]
        exact (one d hd).imp (sym _ _) Eq.symm
      · exact ih h.2 d hd e he
theorem gk_shape : ∀ {n : Nat} {d : D}, D.gk n d = true → isTupD d = true ∨ (∃ i, d = .int i) ∨ ∃ x, d = .str x
  | _, .int i, _ => .inr (.inl ⟨i, rfl⟩)
  | _, .str i, _ => .inr (.inr ⟨i, rfl⟩)
  | _, .tup _, _ => .inl rfl
  | n, .non, h => by cases n <;> (unfold D.gk at h; cases h)
  | n, .bl _, h => by cases n <;> (unfold D.gk at h; cases h)
  | n, .ref _, h => by cases n <;> (unfold D.gk at h; cases h)
theorem gks_all {n : Nat} : ∀ {ds : List D}, D.gks n ds = true → ∀ d ∈ ds, D.gk n d = true
  | [], _, d, hd => by simp at hd
  | e :: ds, h, d, hd => by
    unfold D.gks at h
    rw [Bool.and_eq_true] at h
    rcases List.mem_cons.mp hd with e | hd
    · rw [e]; exact h.1
    · exact gks_all h.2 d hd
theorem cmpbs_self : ∀ ds : List D, cmpbs ds ds = true
  | [] => rfl
  | d :: ds => by
    rw [cmpbs_cons, if_pos (beq_self d)]
    exact cmpbs_self ds
theorem cmpb_self : ∀ {n : Nat} {d : D}, D.gk n d = true → cmpb d d = true
  | _, .int i, _ => rfl
  | _, .str i, _ => rfl
  | _, .tup ds, _ => cmpbs_self ds
  | n, .non, h => by cases n <;> (unfold D.gk at h; cases h)
  | n, .bl _, h => by cases n <;> (unfold D.gk at h; cases h)
  | n, .ref _, h => by cases n <;> (unfold D.gk at h; cases h)
theorem gk_up : ∀ {n : Nat} {d : D}, D.gk n d = true → D.gk (n + 1) d = true := by
  intro n
  have lst : ∀ {n : Nat}, (∀ {d : D}, D.gk n d = true → D.gk (n + 1) d = true) → ∀ {ds : List D}, D.gks n ds = true → D.gks (n + 1) ds = true := by
    intro n f ds
    induction ds with
    | nil => exact fun _ => rfl
    | cons d ds ih =>
      intro h
      unfold D.gks at h ⊢
      rw [Bool.and_eq_true] at h ⊢
      exact ⟨f h.1, ih h.2⟩
  induction n with
  | zero =>
    intro d h
    cases d with
    | int i => rfl
    | str x => exact h
    | _ => unfold D.gk at h; cases h
  | succ n ih =>
    intro d h
    cases d with
    | int i => rfl
    | str x => exact h
    | tup ds =>
      unfold D.gk at h ⊢
      exact lst ih h
    | _ => unfold D.gk at h; cases h
section
variable {prog : Program} {w : World}
/-- such a list can be sorted -/
theorem sortable {A : Around} {s : Shared} {a : Addr} {ds : List D} {vs : List Value} (g : GKs s.heap ds vs) (hg : D.gks 7 ds = true) (hc : cmpAll ds = true) (h2 : 2 ≤ vs.length) (hu : A.units + 90 < cLine) (ha : ∀ o, s.heap.get? a = some o → o.cls ≠ .type "tuple") :
    SrtO.SortableO prog w A s a vs fun v u => D.lt (kdOf s.heap v) (kdOf s.heap u) := by
  intro h' keep
  have g' : GKs h' ds vs := gks_keeps (fun b o ho hcl => keep b o (fun z => by subst z; exact ha o ho hcl) ho) g
  obtain ⟨κ, k, hk⟩ := kind_of_list (s := { s with heap := h' }) (M := model prog w) (A := A) g' (by rw [GK.len g]; exact h2) (cmpAll_ok hc) fun d hd => gk_shape (gks_all hg d hd)
  refine ⟨κ, hk, fun p q hp hq => ?_⟩
  obtain ⟨d, hd, gd⟩ := gks_mem g' p.1 hp
  obtain ⟨e, he, ge⟩ := gks_mem g' q.1 hq
  obtain ⟨d0, hd0, gd0⟩ := gks_mem g p.1 hp
  obtain ⟨e0, he0, ge0⟩ := gks_mem g q.1 hq
  have one : ∀ {d d0 : D} {v : Value}, d ∈ ds → GK s.heap d0 v → GK h' d v → d0 = d := fun {d d0 v} _ g0 g1 => by
    have : GKs h' [d0] [v] := gks_keeps (fun b o ho hcl => keep b o (fun z => by subst z; exact ha o ho hcl) ho) (.cons g0 .nil)
    cases this with
    | cons a _ => exact GK.inj a g1
  have ed := one hd gd0 gd
  have ee := one he ge0 ge
  subst ed
  subst ee
  have e1 : SrtO.lt2 (fun v u => D.lt (kdOf s.heap v) (kdOf s.heap u)) p q = D.lt d0 e0 := by
    show D.lt (kdOf s.heap p.1) (kdOf s.heap q.1) = _
    rw [kdOf_eq gd0, kdOf_eq ge0]
  rw [e1]
  rcases cmpAll_ok hc d0 hd e0 he with c | c
  · exact keyLt_ok (n := 7) (by omega) k hd he gd ge (gk_up (gks_all hg _ hd)) (gk_up (gks_all hg _ he)) c (by omega) ⟨rfl, rfl⟩
  · subst c
    exact keyLt_ok (n := 7) (by omega) k hd he gd ge (gk_up (gks_all hg _ hd)) (gk_up (gks_all hg _ he)) (cmpb_self (gks_all hg _ hd)) (by omega) ⟨rfl, rfl⟩
end
section
variable {X : Cx} {cl : Cls} {W : WX}
theorem back_all {K : PySem.W.Frag} {m : Mp} {H : Hp} {h : Heap} : ∀ {ds : List D} {xs : List V} {us : List Value}, RepL K m H ds xs → Vals xs us → GKs h ds us → ∀ v ∈ us, RelV (bkV v) v ∧ Rep K m H (kdOf h v) (bkV v)
  | _, _, _, .nil, .nil, .nil, v, hv => by simp at hv
  | _, _, _, .cons r1 r2, .cons q1 q2, .cons a b, v, hv => by
    rcases List.mem_cons.mp hv with e | hv
    · subst e
      rw [kdOf_eq a, gk_bk a q1]
      exact ⟨q1, r1⟩
    · exact back_all r2 q2 b v hv
theorem isort_of {ds out : List D} (p : out.Perm ds) (s : SrtO.Srtd D.lt out) : out = isort ds := srtd_uniq s (isort_srtd ds) (p.trans (isort_perm ds).symm)
/-- sorted(x), x any iterable whose items are such data -/
theorem sorted_of {pins : List (Addr × Obj)} {σ : L2.St} {m : Mp} {H : Hp} {s : Shared} {Q : VK} {a : Addr} {ds : List D} {xs : List V} (I : Inv X pins σ H s) (hu : X.A.units + 200 < cLine) (r : RepL X.K m H ds xs) (hg : D.gks 7 ds = true) (hc : cmpAll ds = true) (hz : ds.length ≤ LIM)
    (hcol : ∀ (R : List Value → Shared → Prop) (E : Value → Shared → Prop), (∀ h' tk us, (∀ b o, s.heap.get? b = some o → h'.get? b = some o) → Vals xs us → R us { s with heap := h', toks := tk }) → wpAny (model X.prog X.w) X.A.in1 (collect (.ref a)) R E s)
    (h : ∀ p ys, H p = none → RepL X.K m H (isort ds) ys → Q (.ref p) (upd H p (.lst ys))) : wpAny (model X.prog X.w) X.A (call (.builtin "sorted") [.ref a]) (EP X pins σ Q) X.xe s := by
  refine Calls.call_function_entry PyProof.Rows.kind_sorted PyProof.Rows.plain_sorted PyProof.Rows.entry_sorted (PyProof.Rows.args_sorted1 _) ?_
  unfold Builtin.«sorted»
  refine wpAny_bind (m := checkCount "sorted" 1 1 _) (wpAny_pure ?_)
  refine wpAny_bind (hcol _ _ fun h' tk us hk rv => ?_)
  have I1 : Inv X pins σ H { s with heap := h', toks := tk } := I.kept hk
  have hul : us.length ≤ LIM := by rw [← rv.length, ← r.length]; exact hz
  refine wpAny_bind (wpAny_newList ?_ (lim_line hul))
  have hoL : (h'.push (seqObj "list" us.toArray 0)).get? h'.objs.size = some (seqObj "list" us.toArray 0) := Heap.get?_push_size _ rfl
  show wpAny _ _ _ _ _ { s with heap := h'.push (seqObj "list" us.toArray 0), toks := tk }
  have g : GKs h' ds us := repL_gk I1 7 ds xs us hg r rv
  have g2 : GKs (h'.push (seqObj "list" us.toArray 0)) ds us := gks_keeps (fun b o ho _ => Heap.get?_push_of_some _ ho) g
  have O : SrtO.Swo fun v u => D.lt (kdOf (h'.push (seqObj "list" us.toArray 0)) v) (kdOf (h'.push (seqObj "list" us.toArray 0)) u) := ⟨fun x y => lt_swo.asym _ _, fun x y z => lt_swo.tr _ _ _⟩
  refine wpAny_bind (wpAny_holding (wpAny_call_entry PyProof.Rows.slot_list_sort ⟨_, hoL, rfl⟩ PyProof.Rows.entry_list_sort
    (SrtO.list_sort_ord O hoL (lim_line hul) (fun h2 => sortable (s := { s with heap := h'.push (seqObj "list" us.toArray 0), toks := tk }) g2 hg hc h2 (by rw [units_in1, units_in1]; omega) fun o e => ?_) fun out hs hb => ⟨_, rfl, ?_⟩) (PyProof.Rows.args_list_sort _)))
  · have e' : some o = some (seqObj "list" us.toArray 0) := e.symm.trans hoL
    cases e'
    intro c
    exact absurd (Value.type.inj c) (by decide)
  obtain ⟨e', he'⟩ := PyProof.Rows.sortedHeap_at (vs := us) (out := out.toArray) hoL
  have hmem : ∀ v ∈ out, v ∈ us := fun v hv => hb.perm.mem_iff.mp hv
  have back : ∀ v ∈ us, RelV (bkV v) v ∧ Rep X.K m H (kdOf (h'.push (seqObj "list" us.toArray 0)) v) (bkV v) := by
    exact back_all r rv g2
  have e3 : out.map (kdOf (h'.push (seqObj "list" us.toArray 0))) = isort ds := by
    refine isort_of ?_ ?_
    · rw [← gks_kd g2]
      exact hb.perm.map _
    · exact SrtO.srtd_map hs
  have rep : RepL X.K m H (isort ds) (out.map bkV) := by
    rw [← e3]
    clear hs hb he' e3
    induction out with
    | nil => exact .nil
    | cons v out ih => exact .cons (back v (hmem v List.mem_cons_self)).2 (ih fun v hv => hmem v (List.mem_cons_of_mem _ hv))
  have vals : Vals (out.map bkV) out := by
    clear hs hb he' e3 rep
    induction out with
    | nil => exact .nil
    | cons v out ih => exact .cons (back v (hmem v List.mem_cons_self)).1 (ih fun v hv => hmem v (List.mem_cons_of_mem _ hv))
  have hlen : (out.map bkV).length ≤ sizeLine := by
    rw [List.length_map, hb.perm.length_eq]
    exact lim_line hul
  refine wpAny_pure ⟨_, rfl, .ref h'.objs.size, upd H h'.objs.size (.lst (out.map bkV)), I1.laid (t' := tk) (fun b u e => ?_) (Nat.le_refl _)
    (show ObjOk X.prog X.w _ _ _ (.lst (out.map bkV)) from ⟨hlen, out, e', vals, he'⟩), rfl, h _ _ (I1.hok.fresh (Nat.le_refl _)) rep⟩
  have hb' : b < h'.objs.size := Heap.lt_size e
  rw [PyProof.Rows.sortedHeap_old (Nat.ne_of_lt hb') (by rw [size_push']; exact Nat.lt_succ_of_lt hb')]
  exact Heap.get?_push_of_some _ e
def rSortSt (X : Cx) : List V → Hp → VK → Prop := fun vs H Q => ∃ (m : Mp) (st : Sto) (d : D) (x : V) (ds : List D), RepS X.w X.K m H st ∧ vs = [x] ∧ Rep X.K m H d x ∧ itemsOf d st = some ds ∧ D.gks 7 ds = true ∧ cmpAll ds = true ∧ ds.length ≤ LIM ∧
  ∀ p ys, H p = none → RepL X.K m H (isort ds) ys → Q (.ref p) (upd H p (.lst ys))
theorem keysG_rep {K : PySem.W.Frag} {m : Mp} {H : Hp} {kvs : List (List D × D)} {xs : List (List D × Addr × V)} (r : Paired (FG K m H) kvs xs) : RepL K m H (kvs.map fun p => .tup p.1) (xs.map fun p => .ref p.2.1) := by
  induction r with
  | nil => exact .nil
  | cons h t ih =>
    rw [List.map_cons, List.map_cons]
    exact .cons h.2.1 ih
theorem gv_refs {xs : List (List D × Addr × V)} {ys : List (List D × Addr × Value)} (r : Paired GV xs ys) : Vals (xs.map fun p => V.ref p.2.1) (ys.map fun p => Value.ref p.2.1) := by
  induction r with
  | nil => exact .nil
  | cons h t ih =>
    rw [List.map_cons, List.map_cons]
    refine .cons ?_ ih
    rw [h.2.1]
    rfl
theorem call_sortedSt (hcalm : X.calm = true) (hu : X.A.units + 200 < cLine) : CallR X (.builtin "sorted") (rSortSt X) := by
  intro pins s σ H vs us Q I r h
  obtain ⟨m, st, d, x, ds, R, rfl, rd, hi, hg, hc, hz, q⟩ := h
  obtain ⟨u, rfl, ru⟩ := vals1 r
  unfold itemsOf at hi
  cases rd with
  | @tup a _ xs hs hl =>
    cases ru
    cases hi
    obtain ⟨its, rv, ⟨o, ho, hcl, n, hd⟩, hz'⟩ := I.tuple hs
    refine sorted_of I hu hl hg hc hz (fun R E k => ?_) q
    exact wpAny_collect_seq (s := s) a (.inr rfl) ho hcl hd (fun h' hk => k h' s.toks _ hk (by simpa using rv)) (by
      have := rv.length
      simp only [List.size_toArray]
      omega)
  | @ref n a ha =>
    cases ru
    dsimp only at hi
    split at hi
    · rename_i ds' hl
      cases hi
      obtain ⟨xs, h1, h2⟩ := R.list ha hl
      obtain ⟨its, rv, pl, hz'⟩ := I.list h1
      obtain ⟨o, n, ho, hcl, _, hd⟩ := pl
      refine sorted_of I hu h2 hg hc hz (fun R E k => ?_) q
      exact wpAny_collect_seq (s := s) a (.inl rfl) ho hcl hd (fun h' hk => k h' s.toks _ hk (by simpa using rv)) (by
        have := rv.length
        simp only [List.size_toArray]
        omega)
    · split at hi
      · rename_i kvs hr
        cases hi
        obtain ⟨xs, h1, h2⟩ := R.dk ha hr
        obtain ⟨z, lo, vs, rk, hd⟩ := dk_rd I.hok h1
        obtain ⟨ep, hat⟩ := hd.dictAt
        have hl : xs.length = vs.length := Paired.length rk
        refine sorted_of I hu (keys_rep h2) hg hc hz (fun R E k => ?_) q
        refine PySem.W.kdu_collect (A := X.A.in1) (PySem.W.kdl_dict (knd := mixKind X.prog X.w) (kvs := vs) (ep := ep) lo) (I.ok.hd hcalm) hat (by rw [← hl]; exact z) fun h' tk acc hk hacc => k h' tk _ hk ?_
        have el : acc.toList.length = acc.size := by simp
        have e := keys_at (us := acc.toList) (vs := vs) (by rw [el, hacc.1]) fun j v e => hacc.2 j v (by rw [← Array.getElem?_toList]; exact e)
        have e2 : (xs.map fun p => kV p.1) = vs.map fun p => kV p.1 := by
          have := KV.keys rk
          have := congrArg (List.map kV) this
          rw [List.map_map, List.map_map] at this
          exact this
        rw [e2]
        exact e
      · rename_i kvs hr
        cases hi
        obtain ⟨xs, h1, g, h2⟩ := R.dg ha hr
        obtain ⟨z1, z2, z3, ys, z4, o, es, ep, z5, z6, z7, z8, _⟩ := gd_of I h1 g h2
        have hl : ys.length ≤ LIM := by rw [← paired_len z4]; exact z2
        have hes : es.size = ys.length := by
          rw [← Array.length_toList, z8, List.length_map]
        refine sorted_of I hu (keysG_rep h2) hg hc hz (fun R E k => ?_) q
        refine PySem.W.kdu_collect (A := X.A.in1) (kdl_raw z1 z6 z7) (I.ok.hd hcalm) z5 (by rw [hes]; exact lim_line hl) fun h' tk acc hk hacc => k h' tk _ hk ?_
        have e : acc.toList = ys.map fun p => Value.ref p.2.1 := by
          apply List.ext_getElem?
          intro j
          by_cases hj : j < es.size
          · have hja : j < acc.size := by rw [hacc.1]; exact hj
            obtain ⟨en, h3, h4⟩ := hacc.2 j acc[j] (Array.getElem?_eq_getElem hja)
            rw [Array.getElem?_toList, Array.getElem?_eq_getElem hja, h4, List.getElem?_map]
            rw [← Array.getElem?_toList, z8, List.getElem?_map] at h3
            cases h5 : ys[j]? with
            | none => rw [h5] at h3; cases h3
            | some y =>
              rw [h5] at h3
              cases h3
              rfl
          · rw [Array.getElem?_toList, Array.getElem?_eq_none (by rw [hacc.1]; omega), List.getElem?_eq_none (by rw [List.length_map]; omega)]
        rw [e]
        exact gv_refs z4
      · cases hi
  | _ => cases hi
theorem m_sorted : SemC X cl W (rSortSt X) bSorted := by
  intro m H b st σ ds xs Q R hb r h
  unfold bSorted at h
  split at h
  · rename_i d
    cases r with
    | cons r1 r2 =>
      cases r2
      split at h
      · rename_i ds hi
        split at h
        · rename_i hc
          rw [Bool.and_eq_true, Bool.and_eq_true] at hc
          have hz : ds.length ≤ LIM := by
            have := hc.2
            unfold lim at this
            rwa [Nat.ble_eq] at this
          exact ⟨m, st, d, _, ds, R, rfl, r1, hi, hc.1.1, hc.1.2, hz, fun p ys hp ry => h _ _ _ (To.new R hb hp ry) (.ref Mp.add_self)⟩
        · exact h.elim
      · exact h.elim
  · exact h.elim
end
end
end DL
end S_DLx
section S_DLy
set_option Elab.async false
set_option linter.all false
set_option maxRecDepth 100000
set_option autoImplicit false
namespace DL
open PySem PySem.Spec PyProof.Rows L2

/-! ### rules in the shape that the printed terms want -/
section
variable {X : Cx} {cl : Cls} {W : WX}
theorem takes0 : L2N.Takes X W0 := fun u s' z => by
  obtain ⟨a, B, sI, pins, σ, H, cls, d, e, I, nb, up, sky, na, os, ag, w⟩ := z
  exact w.elim
theorem ru {k : Nat} {A : Around} (h : Room k A) : A.units + 200 < cLine := by
  have := h.un
  omega
theorem ru1 {k : Nat} {A : Around} (h : Room k A) : A.units + 100 < cLine := by
  have := h.un
  omega
theorem ru65 {k : Nat} {A : Around} (h : Room k A) : A.units + 64 < cLine := by
  have := h.un
  omega
theorem pd_ix {a b : Expr} {fa fc : Ex} {pos : Pos} (hu : X.A.units + 100 < cLine) (ha : PD X cl W a fa) (hb : PD X cl W b fc) (hs : PlainIx b := by exact fun _ _ => rfl) : PD X cl W (.Subscript a b pos) (cBin oIx fa fc) := (pe_ix (ix_A hu) ha hb hs).imp fun σ H Q h => tOp_of m_ix h
theorem pds_set1 {x : Str} {e : Expr} {f : Ex} {pos pos' : Pos} {i : Nat} (hN : X.N.Nodup) (hi : X.N[i]? = some x) (hx : Loc X.env.scope x) (he : PD X cl W e f) (hs : swapsWith e (some (.Name x pos')) pos.line X.env = pure false := by rfl) (hf : X.fn x = true ∨ X.env.scope.names.lookup x = some .local := by first | exact .inl rfl | exact .inr rfl) :
    PDS X cl W (.Assign [.Name x pos'] e pos) (sAsg (gN i) f) := pds_set he (ps_set hN hi hx he hs hf)
theorem pds_aug1 {e : Expr} {x : Str} {op : Operator} {i : Nat} {pos pos' : Pos} {f : Ex} {o : D → D → Sto → Rs D} {ti : TIp} (hN : X.N.Nodup) (hi : X.N[i]? = some x) (hx : Loc X.env.scope x) (ho : PIp X op ti) (hs : Sem2 X cl W ti o) (he : PD X cl W e f) (hf : X.fn x = true ∨ X.env.scope.names.lookup x = some .local := by first | exact .inl rfl | exact .inr rfl) :
    PDS X cl W (.AugAssign (.Name x pos') op e pos) (sAug i o f) := pds_aug (ps_aug hN hi hx he ho hf) hs
theorem pdg_n {x : Str} {i : Nat} {pos : Pos} (hN : X.N.Nodup) (hi : X.N[i]? = some x) (hx : Loc X.env.scope x) (hf : X.fn x = true ∨ X.env.scope.names.lookup x = some .local := by first | exact .inl rfl | exact .inr rfl) : PG X (.Name x pos) (tG X.K (gN i) [i]) := pdg_name (pg_name hN hi hx hf)
theorem ip_addA : PIp X .Add (rI0 fun i j => .int (i + j)) := iop_add
theorem ip_divA : PIp X .FloorDiv (rI CDiv fun i j => .int (i / j)) := iop_fdiv
theorem ip_subA : PIp X .Sub (rI0 fun i j => .int (i - j)) := iop_sub
/-- the written part's word about a def -/
structure DefIs (P : Program) (K : PySem.W.Frag) (mg : Str → Option Value) (x : Str) (st : Stmt) (ps : List Str) : Prop where
  ex : ∃ (f : Addr) (fd : FuncData), mg x = some (.ref f) ∧ PySem.W.keepIn K (.ref f) = true ∧ Binds K fd ps [] ∧ Fun K x x st f fd
theorem callee_of {P : Program} {w : World} {K : PySem.W.Frag} {mg : Str → Option Value} {base : Heap} {cl : Cls} {k : Nat} {x : Str} {st : Stmt} {N ps : List Str} {fb : Stm} (df : DefIs P K mg x st ps) (S : FnScope N ps (defScope st))
    (hbody : ∀ (f : Addr) (cdv : Value) (A : Around) (outer : List PySem.Env) (s : Shared) (H : Hp) (E : XK), Room k (A.deeper (envOfC x (defScope st) s.heap.objs.size f cdv)) →
      PSs (cxOf (L2N.CX P w) P w K mg base N x (defScope st) f cdv A outer s H E) (defBody st) (tS ⟨w, K, cl, fun c dx _ H => E c dx H⟩ fb)) :
    Callee P w K mg base cl (k + 1) x ps (fnD N.length ps.length fb) := by
  obtain ⟨f, fd, h1, h2, h3, h4⟩ := df.ex
  refine ⟨fun ds st hl => ?_, f, fd, h1, h2, h3, okD h4 S fun cdv A outer s H E hr => hbody f cdv A outer s H E hr⟩
  unfold fnD
  rw [if_neg hl]
theorem callee_no {P : Program} {w : World} {K : PySem.W.Frag} {mg : Str → Option Value} {base : Heap} {cl : Cls} {k : Nat} {x : Str} {st : Stmt} {ps : List Str} (df : DefIs P K mg x st ps) : Callee P w K mg base cl k x ps (fun _ _ => .no) := by
  obtain ⟨f, fd, h1, h2, h3, h4⟩ := df.ex
  have no : ∀ vs H Q E, ¬ spD w K cl ps.length (fun _ _ => .no) vs H Q E := fun vs H Q E h => by
    obtain ⟨_, _, _, _, _, _, h⟩ := h
    exact h
  exact ⟨fun _ _ _ => rfl, f, fd, h1, h2, h3, fun vs H Q E h => absurd h (no vs H Q E), fun A outer s H args us vs Q E _ _ _ _ h => absurd h (no vs H Q E)⟩
theorem Callee.up {P : Program} {w : World} {K : PySem.W.Frag} {mg : Str → Option Value} {base : Heap} {cl : Cls} {k j : Nat} {x : Str} {ps : List Str} {F : Fn} (C : Callee P w K mg base cl k x ps F) (h : k ≤ j) : Callee P w K mg base cl j x ps F := by
  obtain ⟨f, fd, h1, h2, h3, h4⟩ := C.ex
  exact ⟨C.len, f, fd, h1, h2, h3, h4.len, fun A outer s H args us vs Q E hr => h4.run A outer s H args us vs Q E (hr.mono h)⟩
end
end DL
end S_DLy
section S_DLz
set_option Elab.async false
set_option linter.all false
set_option maxRecDepth 100000
set_option autoImplicit false
namespace DL
open PySem PySem.Spec PyProof.Rows L2 L2H

/-! ### an own exception whose __init__ calls its base's -/
section
variable {X : Cx} {cl : Cls} {W : WX}
theorem pe_ginit {gn : Str} {G : Addr} {e : Expr} {es : List Expr} {ta : TA} {p1 p2 pos : Pos} {pl : Sem Bool} (hg : Gl X gn) (hm : X.mg gn = some (.ref G)) (rd : PySem.W.readsIn X.K G (.type "type") = true) (ga : PySem.W.specialIn X.K (.ref G) "__getattribute__" = some (some (.builtin "type.__getattribute__")))
    (vV : PySem.W.findCls X.K (.ref G) (.type "type") "__init__" = some (.val (.builtin "ValueError.__init__"))) (ha : PA X (e :: es) ta) (hdb : (gn == ("__debug__" : Str)) = false := by decide)
    (hc : eval (.Call (.Attribute (.Name gn p1) "__init__" p2) (e :: es) [] pos) X.env = (do
      let ov ← eval (.Name gn p1) X.env
      standAt p2.atName
      let (f, first) ← holding [ov] (getMethod ov "__init__" pl)
      callWith pos f first (backTo pos (starEach (e :: es) X.env)) (backToKw pos (keywordEach [] X.env))) := by rfl)
    (he : starEach (e :: es) X.env = (false, eval e X.env) :: starEach es X.env := by rfl) (hpl : (backTo pos (starEach es X.env)).any (·.1) = false := by rfl) :
    PE X (.Call (.Attribute (.Name gn p1) "__init__" p2) (e :: es) [] pos) (tVeI X.K ta) := by
  refine ⟨fun pins s σ H Q I h => ?_⟩
  refine PySem.W.methodCall_KW (ld_glob I hg hm ?_ hdb) hc
  refine PySem.W.method_cls I.kIn ga ?_
  refine PySem.W.cls_value I.kIn rd vV (by decide +kernel) ?_
  show wpAny _ _ (callWith pos (Value.builtin "ValueError.__init__") [] (backTo pos (starEach (e :: es) X.env)) []) _ _ _
  refine PyProof.Rows.callWith_method1 (thn (ha.run pos pins _ σ H _ (I.tok _) h) fun us s1 z => ?_) he hpl
  obtain ⟨vs, H1, I1, r1, a, C, ws, ev, hl, T, ea, q⟩ := z
  subst ev
  cases r1 with
  | @cons _ u0 _ ur ra rw' =>
    obtain rfl : u0 = Value.ref a := ra
    have hlen : ur.length ≤ sizeLine := by
      rw [← Paired.length rw', sizeLine_eq]
      omega
    exact oinit_ok T I1 ea hlen fun s' J => ⟨.non, H1, J, rfl, q⟩
/-- what __init__(self, word) leaves of a new exception -/
def spInit (K : PySem.W.Frag) : Sp := fun vs H Q _ => ∃ (a C : Addr) (v : V), vs = [.ref a, v] ∧ OexC K C ∧ PySem.W.findIn K (.ref C) "word" = some none ∧ H a = some (exo a C none) ∧ ∀ dx, H dx = none → dx ≠ a → Q .non (upd (upd H dx (exd dx [("word", v)])) a (exo a C (some dx)))
/-- its making, the context kept in sight -/
theorem pmkN_oex {CX : CXT} {x : Str} {C fI : Addr} {k : Nat} {fd : FuncData} {ps : List Str} {sp : Sp} {e : Expr} {es : List Expr} {ta : TA} {p pos : Pos} (T : OexC X.K C) (iC : PySem.W.findIn X.K (.ref C) "__init__" = some (some (.ref fI))) (tI : PySem.W.typeIn X.K (.ref fI) = some (.type "function"))
    (F1 : FnOk X.prog X.w X.K X.mg X.base CX k fI fd ps sp) (hr : Room (k + 1) X.A) (hb : Binds X.K fd ps []) (hx : Passes CX X (fun _ _ _ => False)) (hg : Gl X x) (hm : X.mg x = some (.ref C)) (ha : PA X (e :: es) ta)
    (hdb : (x == ("__debug__" : Str)) = false := by decide) (he : starEach (e :: es) X.env = (false, eval e X.env) :: starEach es X.env := by rfl) (hpl : (backTo pos (starEach es X.env)).any (·.1) = false := by rfl) :
    L2N.PMk X (.Call (.Name x p) (e :: es) [] pos) (tMkO C sp [] ta) := by
  intro pins s σ H Q I h
  obtain ⟨nm, q, N, bs, bm, sn, sub, ab, col, dd, k0, k1, k2, k3, k5, hC, hbm⟩ := T.cls
  refine wpAny_Call_Name_kw (ld_glob I hg hm ?_ hdb)
  refine PySem.W.callWith_K (h₀ := X.base) I.ok.mod.kin T.kC (thn (ha.run pos pins s σ H _ I h) fun us s1 z => ?_) he hpl
  obtain ⟨vs, H1, I1, r1, hz, q1⟩ := z
  refine ⟨I1.kIn, ?_⟩
  show wpAny _ _ (call (.ref C) us) _ _ _
  obtain ⟨hp, g, dr, tk, os⟩ := s1
  have hsz : hp.objs.size ≤ hp.objs.size + 1 := Nat.le_succ _
  have hn : H1 (hp.objs.size + 1) = none := I1.hok.fresh hsz
  have hq := q1 (hp.objs.size + 1) hn
  rw [List.append_nil] at hq
  have kk : ∀ b o, hp.get? b = some o → ((hp.push (PySem.W.kdv_tup us)).push (PySem.HandSPX.excO C hp.objs.size)).get? b = some o := fun b o z => Heap.get?_push_of_some _ (Heap.get?_push_of_some _ z)
  have hget : ((hp.push (PySem.W.kdv_tup us)).push (PySem.HandSPX.excO C hp.objs.size)).get? (hp.objs.size + 1) = some (PySem.HandSPX.excO C hp.objs.size) := by heap_get
  have I2 : Inv X pins σ (upd H1 (hp.objs.size + 1) (exo (hp.objs.size + 1) C none)) ⟨(hp.push (PySem.W.kdv_tup us)).push (PySem.HandSPX.excO C hp.objs.size), g, dr, tk, os⟩ :=
    I1.laid (t' := tk) (a := hp.objs.size + 1) (o := exo (hp.objs.size + 1) C none) (h' := (hp.push (PySem.W.kdv_tup us)).push (PySem.HandSPX.excO C hp.objs.size)) kk hsz (exo_ok hget)
  have r2 : Vals (V.ref (hp.objs.size + 1) :: vs) (Value.ref (hp.objs.size + 1) :: us) := .cons rfl r1
  have hl : (Value.ref (hp.objs.size + 1) :: us ++ []).length = ps.length := by
    have z := r2.length
    rw [F1.len _ _ _ _ hq] at z
    rw [List.append_nil]
    exact z.symm
  have hus : us.length ≤ sizeLine := by
    rw [← Paired.length r1, sizeLine_eq]
    omega
  have b2 := hb _ (Value.ref (hp.objs.size + 1) :: us) I2.kIn hl
  rw [List.append_nil] at b2
  refine wpAny_call (PySem.HandSPX.call_own F.excBase_ValueError (fun Y => PySem.HandSPX.refsVE_contains Y bm hbm) (I1.kIn _ _ hC) (PySem.W.looks_findIn I1.kIn iC) (fun self => PySem.W.bind_fn I1.kIn self tI) hus
    (codeAny_mono (F1.run _ X.stack _ _ ⟨Value.ref (hp.objs.size + 1) :: us, []⟩ (Value.ref (hp.objs.size + 1) :: us) _ _ (fun _ _ _ => False) (hr.make C us []) (I2.env0.make C us []) b2 r2 hq) fun r s' hq' => ?_))
  cases r with
  | error er => exact hx pins σ _ _ er s' I2 hq'
  | ok fl =>
    cases fl with
    | ret u =>
      obtain ⟨v, H2, os2, bare2, un2, hok2, rv, ev, d, fs, ea, ed, hd1, q2⟩ := hq'
      subst ev
      obtain ⟨h2, g2, d2, t2, os'⟩ := s'
      obtain ⟨t0, G, J, kG, ge, hoe, na⟩ := mk_end0 (d2 := d2) (t2 := t2) I1 hsz kk un2 hok2 os2 bare2 ea ed hd1
      refine ⟨rv, hp.objs.size + 1, _, _, ⟨G, g2, d2, t2, os'⟩, _, .ref C, some d, rfl, J, kG, ge, hoe, ⟨rfl, rfl, fun vs hv => ?_⟩, rfl, rfl, na, rfl, bare2, raises_own T.exC T.tyC, q2⟩
      cases hv
      rfl
    | next => exact False.elim hq'
    | brk => exact False.elim hq'
    | cont => exact False.elim hq'
/-- the written part's word about such a class (at C), its __init__ (at f) -/
structure RefIs (P : Program) (w : World) (K : PySem.W.Frag) (mg : Str → Option Value) (base : Heap) (x : Str) (C : Addr) : Prop where
  gC : mg x = some (.ref C)
  T : OexC K C
  noW : PySem.W.findIn K (.ref C) "word" = some none
  ini : ∃ (f : Addr) (fd : FuncData), PySem.W.findIn K (.ref C) "__init__" = some (some (.ref f)) ∧ PySem.W.typeIn K (.ref f) = some (.type "function") ∧ Binds K fd ["self", "word"] [] ∧ FnOk P w K mg base (L2N.CX P w) 1 f fd ["self", "word"] (spInit K)
theorem upd_word {H : Hp} {a d : Addr} {o1 o2 o3 : HO} (ha : H a = none) (hd : d ≠ a) : upd (del (upd (upd H d o1) a o2) a) d o3 = upd H d o3 := by
  funext b
  by_cases h1 : b = d
  · rw [h1, upd_same, upd_same]
  · rw [upd_ne h1, upd_ne h1]
    by_cases h2 : b = a
    · rw [h2, del_same, ha]
    · rw [del_ne h2, upd_ne h2, upd_ne h1]
/-- raise X(word) -/
theorem pds_raiseW {x : Str} {C : Addr} {n : Nat} {e : Expr} {fe : Ex} {p pos pos2 : Pos} (R : RefIs X.prog X.w X.K X.mg X.base x C) (hcl : cl n = some (.ref C)) (hr : Room 2 X.A) (hc : X.calm = true) (hg : Gl X x) (tk : L2N.Takes X W) (he : PD X cl W e fe)
    (hdb : (x == ("__debug__" : Str)) = false := by decide) (hs : starEach (e :: []) X.env = (false, eval e X.env) :: starEach [] X.env := by rfl) (hpl : (backTo pos (starEach [] X.env)).any (·.1) = false := by rfl) :
    PDS X cl W (.Raise (some (.Call (.Name x p) [e] [] pos)) none pos2) (sRaise n fe) := by
  obtain ⟨f, fd, h1, h2, h3, h4⟩ := R.ini
  refine (L2N.ps_raise hc tk (pmkN_oex R.T h1 h2 h4 hr h3 (fun pins σ H s er s' I c => L2N.passes_call tk (fun _ _ _ _ h => h.elim) pins σ H s er s' I c) hg R.gC (pa_cons he pa_nil hs) hdb hs hpl)).imp fun Dn σ H z => ?_
  obtain ⟨m, b, st, env, p, h⟩ := z
  refine ⟨m, b, st, env, p, ?_⟩
  unfold sRaise at h
  cases e1 : fe b env st with
  | er x s =>
    rw [e1] at h
    exact fun c dx H' m' t rx => h c dx σ H' m' t (p.env.mono t.ext) rx
  | no => rw [e1] at h; exact h
  | ok d s =>
    rw [e1] at h
    intro v H1 m1 t1 r1
    refine ⟨by show 1 ≤ 1000; decide, fun a ha => ⟨a, C, v, rfl, R.T, R.noW, upd_same, fun dx hdx hne => ⟨rfl, dx, [("word", v)], upd_same, ?_, ?_, ?_⟩⟩⟩
    · rw [upd_ne hne, upd_same]
    · rw [upd_ne hne] at hdx
      exact hdx
    · have hd0 : H1 dx = none := by
        rw [upd_ne hne] at hdx
        exact hdx
      have eu : upd (del (upd (upd (upd H1 a (exo a C none)) dx (exd dx [("word", v)])) a (exo a C (some dx))) a) dx (.xd [("word", v)]) = upd H1 dx (.xd [("word", v)]) := by
        funext b
        by_cases h1 : b = dx
        · rw [h1, upd_same, upd_same]
        · rw [upd_ne h1, upd_ne h1]
          by_cases h2 : b = a
          · rw [h2, del_same, ha]
          · rw [del_ne h2, upd_ne h2, upd_ne h1, upd_ne h2]
      rw [eu]
      have t2 := t1.trans (To.any (b := b) (v := .xd [("word", v)]) t1.rep hd0)
      exact h _ _ σ _ m1 t2 (p.env.mono t2.ext) ⟨hcl, dx, v, rfl, upd_same, r1.mono (To.any (b := b) (v := .xd [("word", v)]) t1.rep hd0).ext⟩
end

/-! ### calls within an except suite -/
section
variable {cl : Cls}
structure CalleeH (P : Program) (w : World) (K : PySem.W.Frag) (mg : Str → Option Value) (base : Heap) (cl : Cls) (k : Nat) (x : Str) (ps : List Str) (F : Fn) : Prop where
  len : ∀ ds st, ds.length ≠ ps.length → F ds st = .no
  ex : ∃ f fd, mg x = some (.ref f) ∧ PySem.W.keepIn K (.ref f) = true ∧ Binds K fd ps [] ∧ FnH P w K mg base (L2N.CX P w) k f fd ps (spD w K cl ps.length F)
theorem callee_ofH {P : Program} {w : World} {K : PySem.W.Frag} {mg : Str → Option Value} {base : Heap} {k : Nat} {x : Str} {st : Stmt} {N ps : List Str} {fb : Stm} (df : DefIs P K mg x st ps) (S : FnScope N ps (defScope st))
    (hbody : ∀ (f : Addr) (cdv : Value) (A : Around) (outer : List PySem.Env) (s : Shared) (H : Hp) (E : XK) (p : Addr × Obj), Hot1 A p → RoomH k (A.deeper (envOfC x (defScope st) s.heap.objs.size f cdv)) →
      PSs (cxH (L2N.CX P w) P w K mg base N x (defScope st) f cdv A outer s H E p) (defBody st) (tS ⟨w, K, cl, fun c dx _ H => E c dx H⟩ fb)) :
    CalleeH P w K mg base cl (k + 1) x ps (fnD N.length ps.length fb) := by
  obtain ⟨f, fd, h1, h2, h3, h4⟩ := df.ex
  obtain ⟨oc, od, kV, doc, pm, an, cdv0, ct, osl, rfl, lk, hcd⟩ := h4.ex
  refine ⟨fun ds st hl => ?_, f, _, h1, h2, h3, ?_⟩
  · unfold fnD
    rw [if_neg hl]
  refine fn_ofH lk hcd S (fun vs H Q E h => ?_) (fun A outer s H vs Q E p hot hr h => ?_)
  · obtain ⟨m, st, ds, _, r, hl, _⟩ := h
    rw [← r.length, hl]
  · obtain ⟨m, st0, ds, R, r, hl, h⟩ := h
    refine ⟨_, hbody f cdv0 A outer s H E p hot hr, m, st0.sz, st0, _, ⟨R, rep_start r, Nat.le_refl _⟩, ?_⟩
    unfold fnD at h
    rw [if_pos hl] at h
    rw [hl]
    cases e1 : fb st0.sz (ds.map some ++ List.replicate (N.length - ps.length) none) st0 with
    | rt d s =>
      rw [e1] at h
      intro v H' m' x rr
      obtain ⟨m2, x2, r2⟩ := gc_ok R x (Nat.le_refl _) rr
      exact h v H' m2 x2 r2
    | nx e s =>
      rw [e1] at h
      intro σ' H' m' x re
      exact h .non H' _ (x.pop R (Nat.le_refl _)) .non
    | er x e s =>
      rw [e1] at h
      exact fun c dx σ' H' m' t re rx => h c dx H' m' t rx
    | bk e s => rw [e1] at h; exact h.elim
    | ct e s => rw [e1] at h; exact h.elim
    | no => rw [e1] at h; exact h.elim
/-- a piece of which nothing is said -/
theorem pds_anyS {X : Cx} {W : WX} {s : Stmt} : PDS X cl W s (fun _ _ _ => .no) := ⟨fun pins s σ H D I z => by
  obtain ⟨m, b, st, env, p, h⟩ := z
  exact h.elim⟩
theorem pds_any {X : Cx} {W : WX} {ss : List Stmt} : PDSs X cl W ss (fun _ _ _ => .no) := ⟨fun pins s σ H D I z => by
  obtain ⟨m, b, st, env, p, h⟩ := z
  exact h.elim⟩
end

/-! ### try .. except X as e: return _law_same(e.word, t) -/
def sTryB (cs : List Nat) (i : Nat) (f : Stm) (t : Str) : Stm := fun b env st => match f b env st with
  | .er x e s => if cs.contains x.cls = true then match x.word with
      | some (.str y) => if Nat.blt i e.length = true then .rt (.bl (y == t)) s else .no
      | _ => .no
    else .er x e s
  | r => r
section
variable {X : Cx} {cl : Cls} {W : WX}
theorem pds_try_same {x en : Str} {c : Value} {C : Addr} {cs : List Nat} {i k : Nat} {body : List Stmt} {f : Stm} {F : Fn} {t : Str} {j : Nat} {np p p1 p2 p3 p4 p5 pos pos' : Pos} (hs : X.stack = X.env :: X.outer) (hf : X.env.frame = some X.env.locals) (hN : X.N.Nodup) (hi : X.N[i]? = some en) (hln : X.env.kindOf en = some .local) (hc : Names X x c) (tk : L2N.Takes X W)
    (hb : ∀ (W' : WX) (pn : List (Addr × Obj)) (xe : Value → Shared → Prop), L2N.Takes (X.tr pn xe) W' → PassesOwn (model X.prog X.w) X.A X.env xe → PDSs (X.tr pn xe) cl W' body f)
    (hcl : ∀ n v, cl n = some v → PySem.W.exmOne X.K v c = some (cs.contains n)) (hcs : ∀ n, cs.contains n = true → cl n = some (.ref C)) (T : XfC X.K C) (noW : PySem.W.findIn X.K (.ref C) "word" = some none)
    (FH : CalleeH X.prog X.w X.K X.mg X.base cl k "_law_same" ["actual", "expected"] F) (hF : ∀ a b st, F [.str a, .str b] st = .ok (.bl (a == b)) st) (hr : Room k X.A) (hg : Gl X "_law_same")
    (ve : Vis X.env.scope en := by first | exact Or.inl rfl | exact Or.inr (Or.inl rfl)) (hd1 : (en == ("__debug__" : Str)) = false := by decide) (hd2 : (en == ("__classdict__" : Str)) = false := by decide)
    (hat : attributeBase (.Name en p1) "word" X.env (eval (.Name en p1) X.env) = eval (.Name en p1) X.env := by rfl)
    (e1 : starEach [.Attribute (.Name en p1) "word" p2, .Constant (.str t) j p3] X.env = (false, eval (.Attribute (.Name en p1) "word" p2) X.env) :: starEach [.Constant (.str t) j p3] X.env := by rfl)
    (e2 : starEach [.Constant (.str t) j p3] X.env = (false, eval (.Constant (.str t) j p3) X.env) :: starEach [] X.env := by rfl) (hpl : (backTo p4 (starEach [.Constant (.str t) j p3] X.env)).any (·.1) = false := by rfl) :
    PDS X cl W (.Try body [.ExceptHandler (some (.Name x np)) (some en) [.Return (some (.Call (.Name "_law_same" p) [.Attribute (.Name en p1) "word" p2, .Constant (.str t) j p3] [] p4)) p5] pos'] [] [] pos) (sTryB cs i f t) := by
  obtain ⟨fa, fd, h1, h2, h3, h4⟩ := FH.ex
  refine (L2N.ps_try_as (tb := fun W' => tS (gX X cl W') f) (ts := fun a cls d => tRet (tCallS (spD X.w X.K cl 2 F) (fun σ c dx H' => W0 c dx σ H') (tCons (tXf a cls d C "word" (tVar i)) (tCons (tC (.str t)) tNil)))) (Wout := W) hs hf hN hi hln hc tk hb (fun a oe cls d pn hz hv => ?_)).imp fun Dn σ H z => ?_
  · obtain ⟨vs, hv'⟩ := hv
    have hot : HotC (X.suite a ((a, oe) :: pn)) := ⟨(a, oe), ⟨rfl, vs, hv', hz.2.2 vs hv'⟩, List.mem_cons_self⟩
    exact pss_one (ps_ret (pe_callH (X := X.suite a ((a, oe) :: pn)) (E := fun σ c dx H' => W0 c dx σ H') h4 (roomH_mark hr _) hot hg h1 h2 h3 (fun σ => L2N.passAt (X := X.suite a ((a, oe) :: pn)) takes0 σ) (pa_cons (pe_xf T noW hz.zc ⟨vs, hv'⟩ (pe_var (X := X.suite a ((a, oe) :: pn)) (i := i) hi ve hd1 hd2) hat) (pa_cons pe_str pa_nil e2) e1) (by decide) e1 hpl))
  · obtain ⟨m, b, st, env, p, h⟩ := z
    refine ⟨m, b, st, env, ⟨p.rep, p.env, p.le⟩, ?_⟩
    unfold sTryB at h
    cases e1 : f b env st with
    | nx e s => rw [e1] at h; exact h
    | rt d s => rw [e1] at h; exact h
    | bk e s => rw [e1] at h; exact h
    | ct e s => rw [e1] at h; exact h
    | no => rw [e1] at h; exact h
    | er xx e s =>
      rw [e1] at h
      intro c' dx σ' H' m' t1 re rx
      obtain ⟨hx1, hx2⟩ := rx
      refine ⟨_, hcl _ _ hx1, fun hy a na => ?_, fun hy => ?_⟩
      · dsimp only at h
        rw [if_pos hy] at h
        cases hw : xx.word with
        | none => rw [hw] at h; exact h.elim
        | some w =>
          rw [hw] at h hx2
          cases w with
          | str y =>
            dsimp only at h
            split at h
            · rename_i hi2
              rw [Nat.blt_eq] at hi2
              obtain ⟨dd, v, rfl, hdd, rv⟩ := hx2
              cases rv
              have hc' : c' = .ref C := Option.some.inj (hx1.symm.trans (hcs _ hy))
              refine ⟨.ref a, by rw [List.getElem?_set_self (by rw [← re.len]; exact hi2)], rfl, hc', dd, [("word", .str y)], .str y, rfl, hdd, by simp [List.lookup], ?_⟩
              refine ⟨m', s, [.str y, .str t], t1.rep, .cons (.str y) (.cons (.str t) .nil), rfl, ?_⟩
              rw [hF]
              intro v H'' m'' t2 rb
              exact h v H'' m'' (t1.trans (t2.mono (Nat.le_trans p.le t1.old.le))) rb
            · exact h.elim
          | _ => exact h.elim
      · dsimp only at h
        rw [if_neg (by rw [hy]; exact Bool.false_ne_true)] at h
        exact h c' dx σ' H' m' t1 re ⟨hx1, hx2⟩
end
end DL
namespace DL
open PySem
def clsBody : Stmt → List Stmt
  | .ClassDef (body := b) .. => b
  | _ => []
def clsDef (s : Stmt) (i : Nat) : Stmt := (clsBody s).getD i (.Pass ⟨0, 0, 0, 0⟩)
end DL
end S_DLz
section S_DLfin
set_option Elab.async false
set_option linter.all false
set_option maxRecDepth 100000
set_option autoImplicit false
namespace DL
open PySem PySem.Spec PyProof.Rows L2 L2H

/-! ### the two ends: the script's draws, the law -/
def spDraws (K : PySem.W.Frag) : Sp := fun vs H Q _ => ∃ (a : Addr) (ns : List Int), vs = [.ref a] ∧ SqL K H a (ns.map V.int) ∧ ns.length ≤ 63 ∧
  ∀ p q, H p = none → (upd H p (.lst (ns.map V.int))) q = none → Q (.ref q) (upd (upd H p (.lst (ns.map V.int))) q (.lst [.ref p, .int 0, .int 0, .int 1]))
def spLawD (K : PySem.W.Frag) : Sp := fun vs H Q _ => ∃ (a : Addr) (ns : List Int), vs = [.ref a] ∧ SqL K H a (ns.map V.int) ∧ ns.length ≤ 63 ∧ ∀ H', Q (.bl true) H'
/-- the store behind `draws = _law_draws(script)` -/
def sto0 (ns : List Int) : Sto := ⟨2, [.lst [.ref 0, .int 0, .int 0, .int 1], .lst (ns.map .int)]⟩
def env0 (n : Nat) : Env := none :: some (.ref 1) :: List.replicate n none
theorem rep_empty {w : World} {K : PySem.W.Frag} {H : Hp} : RepS w K (fun _ => none) H ⟨0, []⟩ := ⟨fun n o h => by
  have := get_lt h
  exact absurd this (Nat.not_lt_zero _), fun n a h => (nomatch h), fun n k a h => (nomatch h)⟩
theorem law_start {w : World} {K : PySem.W.Frag} {cl : Cls} {W : WX} {f : Stm} {Dn : Ends} {H : Hp} {p q a : Addr} {ns : List Int} {n : Nat} (hp : H p = none) (hq : (upd H p (.lst (ns.map V.int))) q = none)
    (h : ∃ s, f 0 (env0 n) (sto0 ns) = .rt (.bl true) s) (hD : ∀ H', Dn.rt (.bl true) H') : tS ⟨w, K, cl, W⟩ f Dn ((some (.ref a) :: List.replicate (n + 1) none).set 1 (some (.ref q))) (upd (upd H p (.lst (ns.map V.int))) q (.lst [.ref p, .int 0, .int 0, .int 1])) := by
  have t1 := To.new (w := w) (K := K) (b := 0) rep_empty (Nat.le_refl _) hp (RepL.ints (is := ns))
  have t2 := To.new (w := w) (K := K) (b := 0) t1.rep (Nat.zero_le _) hq (.cons (.ref (n := 0) Mp.add_self) (.cons (.int 0) (.cons (.int 0) (.cons (.int 1) .nil))))
  obtain ⟨s, h⟩ := h
  refine ⟨_, 0, sto0 ns, env0 n, ⟨t2.rep, ⟨?_, fun i d e => ?_⟩, Nat.zero_le _⟩, ?_⟩
  · unfold env0
    simp
  · unfold env0 at e
    match i, e with
    | 0, e => cases e
    | 1, e =>
      cases e
      exact ⟨.ref q, rfl, .ref (n := 1) Mp.add_self⟩
    | i + 2, e =>
      rw [List.getElem?_cons_succ, List.getElem?_cons_succ, List.getElem?_replicate] at e
      split at e <;> cases e
  · rw [h]
    intro v H' m' x r
    cases r
    exact hD H'
theorem spLaw_len {K : PySem.W.Frag} {vs : List V} {H : Hp} {Q : VK} {E : XK} (h : spLawD K vs H Q E) : vs.length = 1 := by
  obtain ⟨a, ns, rfl, _⟩ := h
  rfl
/-- == of two texts -/
def oEqS : D → D → Sto → Rs D
  | .str i, .str j, st => .ok (.bl (i == j)) st
  | _, _, _ => .no
section
variable {X : Cx} {cl : Cls} {W : WX}
theorem m_eqS : Sem2 X cl W rEq oEqS := by
  intro m H b st σ d e x y Q R hb rx ry h
  unfold oEqS at h
  split at h
  · rename_i i j
    cases rx
    cases ry
    refine ⟨rfl, ?_⟩
    have e1 : decide (V.str i = V.str j) = (i == j) := by
      rw [Bool.eq_iff_iff, decide_eq_true_eq, beq_iff_eq]
      exact ⟨fun z => V.str.inj z, fun z => by rw [z]⟩
    rw [e1]
    exact PostA.put (R := Rep X.K) h R (.bl _)
  · exact h.elim
end
end DL
namespace DL
open PySem PySem.Spec PyProof.Rows L2 L2H
theorem defIs_mk {P : Program} {K : PySem.W.Frag} {mg : Str → Option Value} {h : Heap} {x : Str} {st : Stmt} {ps : List Str} {f : Addr} {oc : Value} {od an : Option Addr} {osl : Array (Option Value)} {kV doc pm cdv ct : Value} (X : K.In h) (G : h.Ns mainGlobals mg) (a : PySem.W.nsIn K mainGlobals x = some (some (.ref f)))
    (l : K.lookup f = some ⟨oc, od, .func (PySem.W.fnOf x x (defArgs st) (defBody st) (defScope st) .none kV doc pm an cdv ct), osl⟩) (c : PySem.W.codeIn K cdv x = true) (k : PySem.W.keepIn K (.ref f) = true)
    (hb : ∀ (kV doc pm : Value) (an : Option Addr) (cdv ct : Value) (us : List Value), us.length = ps.length → bindArgs (PySem.W.fnOf x x (defArgs st) (defBody st) (defScope st) .none kV doc pm an cdv ct) ⟨us, []⟩ = pure (ps.zip us)) : DefIs P K mg x st ps :=
  ⟨f, _, PySem.W.mg_of X G a, k, (fun_mk l c k).binds hb, fun_mk l c k⟩
theorem walkD {l : PySem.W.OpenLaw} {q : Program} {loose : List Str} {XP : (Str → Option Value) → Heap → Prop} {YP : World → Heap → Prop} {d : DefRec} {K : Params → PySem.W.Frag} {k : Nat} (hn : l.most = some 63) (hdf : d.params.defaults = []) (hr : Room k callerA)
    (hY : ∀ (w : World) (h : Heap), YP w h → (K w.params).In h)
    (F : ∀ (w : World) (mg : Str → Option Value) (fa : Addr) (h : Heap), (K w.params).In h → h.Ns mainGlobals mg → mg d.name = some (.ref fa) →
      ∃ fd : FuncData, (∀ (s : Shared) (u : Value), BindsTo s fd ⟨[u], []⟩ [("script", u)]) ∧ ∀ base : Heap, (K w.params).In base → base.Ns mainGlobals mg → FnOk l.prog w (K w.params) mg base (L2N.CX l.prog w) k fa fd ["script"] (spLawD (K w.params))) :
    PySem.W.WalkO q loose XP YP l.row.toRowW d [] (fun f vs => PySem.call f vs) :=
  L2.walk_of (n := 63) (k := k) (x := "script") (CX := fun w => L2N.CX l.prog w) (sp := fun w => spLawD (K w.params)) hn (by decide) hdf hr hY F (fun _ _ a ns hl _ hS => ⟨a, ns, rfl, hS, hl, fun _ => rfl⟩) fun _ _ _ _ _ z => by
    obtain ⟨_, _, _, _, _, _, _, _, _, _, _, _, hE⟩ := z
    exact hE
end DL
end S_DLfin
section S_PLa
set_option Elab.async false
set_option linter.all false
set_option maxRecDepth 100000
set_option autoImplicit false
namespace DL
open PySem PySem.Spec PyProof.Rows L2 L2H

/-! ### the plain-law toolkit: equations to reckon a denotation by simp -/
@[simp] theorem bind_ok {α β : Type} (a : α) (s : Sto) (f : α → Sto → Rs β) : (Rs.ok a s).bind f = f a s := rfl
@[simp] theorem bind_er {α β : Type} (a : Xn) (s : Sto) (f : α → Sto → Rs β) : (Rs.er a s : Rs α).bind f = .er a s := rfl
@[simp] theorem bind_no {α β : Type} (f : α → Sto → Rs β) : (Rs.no : Rs α).bind f = .no := rfl
@[simp] theorem bind_ite {α β : Type} (c : Prop) [Decidable c] (x y : Rs α) (f : α → Sto → Rs β) : (if c then x else y).bind f = if c then x.bind f else y.bind f := by split <;> rfl
def flE {α : Type} (r : Rs α) (env : Env) (f : α → Sto → Fl) : Fl := match r with
  | .ok a s => f a s
  | .er x s => .er x env s
  | .no => .no
@[simp] theorem flE_ok {α : Type} (a : α) (s : Sto) (env : Env) (f : α → Sto → Fl) : flE (.ok a s) env f = f a s := rfl
@[simp] theorem flE_er {α : Type} (a : Xn) (s : Sto) (env : Env) (f : α → Sto → Fl) : flE (.er a s) env f = .er a env s := rfl
@[simp] theorem flE_ite {α : Type} (c : Prop) [Decidable c] (x y : Rs α) (env : Env) (f : α → Sto → Fl) : flE (if c then x else y) env f = if c then flE x env f else flE y env f := by split <;> rfl
def Fl.seq (r : Fl) (g : Env → Sto → Fl) : Fl := match r with
  | .nx e s => g e s
  | .rt d s => .rt d s
  | .bk e s => .bk e s
  | .ct e s => .ct e s
  | .er x e s => .er x e s
  | .no => .no
@[simp] theorem seq_nx (e : Env) (s : Sto) (g : Env → Sto → Fl) : (Fl.nx e s).seq g = g e s := rfl
@[simp] theorem seq_rt (e : D) (s : Sto) (g : Env → Sto → Fl) : (Fl.rt e s).seq g = .rt e s := rfl
@[simp] theorem seq_er (x : Xn) (e : Env) (s : Sto) (g : Env → Sto → Fl) : (Fl.er x e s).seq g = .er x e s := rfl
@[simp] theorem seq_ite (c : Prop) [Decidable c] (x y : Fl) (g : Env → Sto → Fl) : (if c then x else y).seq g = if c then x.seq g else y.seq g := by split <;> rfl
/-- the end of a def's body -/
def Fl.fin (r : Fl) (b : Nat) : Rs D := match r with
  | .rt d s => .ok (gc b d s).1 (gc b d s).2
  | .nx _ s => .ok .non (s.pop b)
  | .er x _ s => .er x s
  | _ => .no
@[simp] theorem fin_rt (d : D) (s : Sto) (b : Nat) : (Fl.rt d s).fin b = .ok (gc b d s).1 (gc b d s).2 := rfl
@[simp] theorem fin_nx (e : Env) (s : Sto) (b : Nat) : (Fl.nx e s).fin b = .ok .non (s.pop b) := rfl
@[simp] theorem fin_er (x : Xn) (e : Env) (s : Sto) (b : Nat) : (Fl.er x e s).fin b = .er x s := rfl
@[simp] theorem fin_ite (c : Prop) [Decidable c] (x y : Fl) (b : Nat) : (if c then x else y).fin b = if c then x.fin b else y.fin b := by split <;> rfl
theorem fnD_eq (n k : Nat) (f : Stm) (ds : List D) (st : Sto) (h : ds.length = k) : fnD n k f ds st = (f st.sz (ds.map some ++ List.replicate (n - k) none) st).fin st.sz := by
  unfold fnD
  rw [if_pos h]
  cases f st.sz (ds.map some ++ List.replicate (n - k) none) st <;> rfl

theorem fnD_to {n k : Nat} {f : Stm} {ds : List D} {st : Sto} {r : Rs D} {env : Env} (h : ds.length = k) (he : ds.map some ++ List.replicate (n - k) none = env) (hr : (f st.sz env st).fin st.sz = r) : fnD n k f ds st = r := by
  rw [fnD_eq n k f ds st h, he]
  exact hr

/-! #### statements -/
section
variable (b : Nat) (env : Env) (st : Sto)
@[simp] theorem sSeq_eq (f g : Stm) : sSeq f g b env st = (f b env st).seq fun e s => g b e s := by
  unfold sSeq Fl.seq
  rfl
@[simp] theorem sNx_eq : sNx b env st = .nx env st := rfl
@[simp] theorem sBk_eq : sBk b env st = .bk env st := rfl
@[simp] theorem sCt_eq : sCt b env st = .ct env st := rfl
@[simp] theorem sDrop_eq (f : Ex) : sDrop f b env st = flE (f b env st) env fun _ s => .nx env s := by
  unfold sDrop flE
  cases f b env st <;> rfl
@[simp] theorem sRet_eq (f : Ex) : sRet f b env st = flE (f b env st) env fun d s => .rt d s := by
  unfold sRet flE
  cases f b env st <;> rfl
@[simp] theorem sIf_eq (t : Te) (f g : Stm) : sIf t f g b env st = flE (t b env st) env fun k s => if k = true then f b env s else g b env s := by
  unfold sIf flE
  cases t b env st with
  | ok k s => cases k <;> rfl
  | er x s => rfl
  | no => rfl
def onEnv (o : Option Env) (s : Sto) : Fl := match o with
  | some e => .nx e s
  | none => .no
@[simp] theorem onEnv_some (e : Env) (s : Sto) : onEnv (some e) s = .nx e s := rfl
@[simp] theorem sAsg_eq (t : Tg) (f : Ex) : sAsg t f b env st = flE (f st.sz env st) env fun d s => onEnv (t (gc st.sz d s).1 env) (gc st.sz d s).2 := by
  unfold sAsg flE onEnv
  cases f st.sz env st <;> rfl
@[simp] theorem sAug_eq (i : Nat) (o : D → D → Sto → Rs D) (f : Ex) : sAug i o f b env st = sAsg (gN i) (cBin o (cVar i) f) b env st := rfl
@[simp] theorem gN_eq (i : Nat) (d : D) : gN i d env = some (env.set i (some d)) := rfl
@[simp] theorem gT_eq (ts : List Tg) (ds : List D) : gT ts (.tup ds) env = gTs ts ds env := rfl
@[simp] theorem gTs_nil : gTs [] [] env = some env := rfl
@[simp] theorem gTs_cons (t : Tg) (ts : List Tg) (d : D) (ds : List D) : gTs (t :: ts) (d :: ds) env = (t d env).bind fun e => gTs ts ds e := by
  show (match t d env with | some e => gTs ts ds e | none => none) = _
  cases t d env <;> rfl
@[simp] theorem sPar_eq (is : List Nat) (f : Ar) : sPar is f b env st = flE (f b env st) env fun ds s => if ds.length = is.length then .nx ((is.zip ds).foldl (fun e p => e.set p.1 (some p.2)) env) s else .no := by
  unfold sPar flE
  cases f b env st <;> rfl
def putS (o : Option Sto) : Rs D := match o with
  | some s => .ok .non s
  | none => .no
@[simp] theorem putS_some (s : Sto) : putS (some s) = .ok .non s := rfl
@[simp] theorem sPut_eq (a i e : Ex) : sPut a i e b env st = flE ((e b env st).bind fun e st => (a b env st).bind fun d st => (i b env st).bind fun k st => putS (put1 b d k e st)) env fun _ s => .nx env s := by
  have z : ∀ r : Rs D, (match r with | .ok _ s => Fl.nx env s | .er x s => .er x env s | .no => .no) = flE r env fun _ s => .nx env s := fun r => by cases r <;> rfl
  exact z _
theorem sFor_eq (w : Wx) (t : Tg) (f : Stm) : sFor w t f b env st = flE (w b env st) env fun k s => match k with
  | .sn ds => forS t f b ds env s
  | .lv it => forL it t f b FUEL 0 env s := by
  unfold sFor flE
  cases w b env st with
  | ok k s => cases k <;> rfl
  | er x s => rfl
  | no => rfl
@[simp] theorem sRaise_eq (c : Nat) (f : Ex) : sRaise c f b env st = flE (f b env st) env fun d s => .er ⟨c, some d⟩ env s := by
  unfold sRaise flE
  cases f b env st <;> rfl

/-! #### expressions -/
def ofEnv (o : Option (Option D)) (st : Sto) : Rs D := match o with
  | some (some d) => .ok d st
  | _ => .no
@[simp] theorem ofEnv_some (d : D) : ofEnv (some (some d)) st = .ok d st := rfl
@[simp] theorem cVar_eq (i : Nat) : cVar i b env st = ofEnv env[i]? st := by
  unfold cVar ofEnv
  rfl
@[simp] theorem cC_eq (d : D) : cC d b env st = .ok d st := rfl
@[simp] theorem cUn_eq (f : D → Sto → Rs D) (a : Ex) : cUn f a b env st = (a b env st).bind f := rfl
@[simp] theorem cBin_eq (f : D → D → Sto → Rs D) (a c : Ex) : cBin f a c b env st = (a b env st).bind fun d st => (c b env st).bind fun e st => f d e st := rfl
@[simp] theorem cNilA_eq : cNilA b env st = .ok [] st := rfl
@[simp] theorem cConsA_eq (a : Ex) (r : Ar) : cConsA a r b env st = (a b env st).bind fun d st => (r b env st).bind fun ds st => .ok (d :: ds) st := rfl
theorem ite_ble {α : Type} (n : Nat) (x y : α) : (if Nat.ble n LIM = true then x else y) = if n ≤ 1000000 then x else y := by
  by_cases h : n ≤ 1000000
  · rw [if_pos h, if_pos (by rw [Nat.ble_eq]; exact h)]
  · rw [if_neg h, if_neg (by rw [Nat.ble_eq]; exact h)]
@[simp] theorem cTup_eq (a : Ar) : cTup a b env st = (a b env st).bind fun ds st => if ds.length ≤ 1000000 then .ok (.tup ds) st else .no := by
  unfold cTup
  congr 1
  funext ds s
  exact ite_ble _ _ _
@[simp] theorem cLst_eq (a : Ar) : cLst a b env st = (a b env st).bind fun ds st => if ds.length ≤ 1000000 then .ok (.ref st.sz) (st.push (.lst ds)) else .no := by
  unfold cLst
  congr 1
  funext ds s
  exact ite_ble _ _ _
@[simp] theorem cIf_eq (t : Te) (a c : Ex) : cIf t a c b env st = (t b env st).bind fun k st => if k = true then a b env st else c b env st := by
  unfold cIf
  congr 1
  funext k s
  cases k <;> rfl
def onB (d : D) (st : Sto) : Rs Bool := match d with
  | .bl k => .ok k st
  | _ => .no
@[simp] theorem onB_bl (k : Bool) : onB (.bl k) st = .ok k st := rfl
@[simp] theorem cB_eq (f : Ex) : cB f b env st = (f b env st).bind onB := by
  unfold cB
  rfl
@[simp] theorem cAnd_eq (a c : Te) : cAnd a c b env st = (a b env st).bind fun k st => if k = true then c b env st else .ok false st := by
  unfold cAnd
  congr 1
  funext k s
  cases k <;> rfl
@[simp] theorem cOr_eq (a c : Te) : cOr a c b env st = (a b env st).bind fun k st => if k = true then .ok true st else c b env st := by
  unfold cOr
  congr 1
  funext k s
  cases k <;> rfl
@[simp] theorem cNot_eq (a : Te) : cNot a b env st = (a b env st).bind fun k st => .ok (!k) st := rfl
def andV (d : D) (st : Sto) (g : Sto → Rs D) : Rs D := match d with
  | .bl true => g st
  | .bl false => .ok (.bl false) st
  | _ => .no
def orV (d : D) (st : Sto) (g : Sto → Rs D) : Rs D := match d with
  | .bl false => g st
  | .bl true => .ok (.bl true) st
  | _ => .no
@[simp] theorem andV_bl (k : Bool) (g : Sto → Rs D) : andV (.bl k) st g = if k = true then g st else .ok (.bl false) st := by cases k <;> rfl
@[simp] theorem orV_bl (k : Bool) (g : Sto → Rs D) : orV (.bl k) st g = if k = true then .ok (.bl true) st else g st := by cases k <;> rfl
@[simp] theorem cAndV_eq (a c : Ex) : cAndV a c b env st = (a b env st).bind fun d st => andV d st fun s => c b env s := by
  unfold cAndV andV
  congr 1
@[simp] theorem cOrV_eq (a c : Ex) : cOrV a c b env st = (a b env st).bind fun d st => orV d st fun s => c b env s := by
  unfold cOrV orV
  congr 1
@[simp] theorem cCall_eq (F : Fn) (a : Ar) : cCall F a b env st = (a b env st).bind fun ds s => F ds s := rfl
@[simp] theorem pNo_eq : pNo b env st = .ok none st := rfl
def onInt (d : D) (st : Sto) : Rs (Option Int) := match d with
  | .int i => .ok (some i) st
  | _ => .no
@[simp] theorem onInt_int (i : Int) : onInt (.int i) st = .ok (some i) st := rfl
@[simp] theorem pSo_eq (f : Ex) : pSo f b env st = (f b env st).bind onInt := by
  unfold pSo
  congr 1
@[simp] theorem cSl_eq (f : Ex) (lo hi : Po) : cSl f lo hi b env st = (f b env st).bind fun d st => (lo b env st).bind fun i st => (hi b env st).bind fun j st => oSl i j d st := rfl
@[simp] theorem cMt_eq (k : Rv) (f : Mf) (o : Ex) (a : Ar) : cMt k f o a b env st = (o b env st).bind fun d st => if isRv k d st = true then (a b env st).bind fun es st => f b d es st else .no := rfl
def onLc (r : Rs (List D)) : Rs D := match r with
  | .ok ys s4 => .ok (.ref s4.sz) (s4.push (.lst ys))
  | _ => .no
@[simp] theorem onLc_ok (ys : List D) (s : Sto) : onLc (.ok ys s) = .ok (.ref s.sz) (s.push (.lst ys)) := rfl
theorem cLc_eq (w : Wx) (t : Tg) (tt : Te) (te : Ex) (own : List Nat) : cLc w t tt te own b env st = (w b env st).bind fun wk s => onLc (lcW t tt te (wipeE env own) wk s) := by
  unfold cLc onLc
  rfl
end
end DL
end S_PLa
section S_PLb
set_option Elab.async false
set_option linter.all false
set_option maxRecDepth 100000
set_option autoImplicit false
namespace DL
open PySem PySem.Spec PyProof.Rows L2 L2H

/-! ### the store: equations -/
/-- the object n is there -/
def Sto.has (s : Sto) (n : Nat) : Prop := n < s.sz ∧ s.sz ≤ s.objs.length
/-- the store is whole -/
def Sto.wf (s : Sto) : Prop := s.sz = s.objs.length
theorem wf_push {s : Sto} (h : s.wf) (o : O) : (s.push o).wf := by
  unfold Sto.wf Sto.push at *
  simp [h]
theorem wf_put {s : Sto} (h : s.wf) (n : Nat) (o : O) : (s.put n o).wf := by
  unfold Sto.wf Sto.put at *
  simp [h]
theorem wf_pop {s : Sto} (h : s.wf) {b : Nat} (hb : b ≤ s.sz) : (s.pop b).wf := by
  unfold Sto.wf Sto.pop at *
  simp
  omega
theorem get_put {s : Sto} (h : s.wf) {n k : Nat} {o : O} (hn : n < s.sz) : (s.put n o).get k = if k = n then some o else s.get k := by
  split
  · rename_i e
    subst e
    unfold Sto.get Sto.put
    unfold Sto.wf at h
    simp only [if_pos hn]
    rw [List.getElem?_set_self (by omega)]
  · rename_i e
    exact get_put_ne e hn
theorem get_push {s : Sto} {k : Nat} {o : O} : (s.push o).get k = if k = s.sz then some o else s.get k := by
  split
  · rename_i e
    subst e
    exact get_push_self s o
  · rename_i e
    exact get_push_ne e
theorem list_eq (s : Sto) (n : Nat) : s.list n = (match s.get n with
  | some (.lst ds) => some ds
  | some (.lk (.lst ds)) => some ds
  | _ => none) := rfl
theorem list_push {s : Sto} {k : Nat} {ds : List D} : (s.push (.lst ds)).list k = if k = s.sz then some ds else s.list k := by
  unfold Sto.list
  rw [get_push]
  by_cases e : k = s.sz <;> simp only [e, if_true, if_false]
theorem list_push_ne {s : Sto} {k : Nat} {o : O} (h : k ≠ s.sz) : (s.push o).list k = s.list k := by
  unfold Sto.list
  rw [get_push, if_neg h]
theorem list_put_ne {s : Sto} {k n : Nat} {o : O} (h : k ≠ n) (hn : n < s.sz) : (s.put n o).list k = s.list k := by
  unfold Sto.list
  rw [get_put_ne h hn]
theorem list_put {s : Sto} (h : s.wf) {k n : Nat} {ds : List D} (hn : n < s.sz) : (s.put n (.lst ds)).list k = if k = n then some ds else s.list k := by
  unfold Sto.list
  rw [get_put h hn]
  by_cases e : k = n <;> simp only [e, if_true, if_false]
theorem list_of_get {s : Sto} {n : Nat} {ds : List D} (h : s.get n = some (.lst ds)) : s.list n = some ds := by
  unfold Sto.list
  rw [h]
theorem put_push_self (s : Sto) (o o2 : O) : (s.push o).put s.sz o2 = s.push o2 := by
  unfold Sto.put Sto.push
  simp
theorem put_push {s : Sto} {n : Nat} {o o2 : O} (h : n < s.sz) : (s.push o).put n o2 = (s.put n o2).push o := by
  unfold Sto.put Sto.push
  have e : s.sz + 1 - 1 - n = (s.sz - 1 - n) + 1 := by omega
  simp only [e, List.set_cons_succ]
theorem put_put_self (s : Sto) (n : Nat) (o o2 : O) : (s.put n o).put n o2 = s.put n o2 := by
  unfold Sto.put
  simp
theorem put_get {s : Sto} {n : Nat} {o : O} (h : s.get n = some o) : s.put n o = s := by
  unfold Sto.get at h
  split at h
  · unfold Sto.put
    have := List.getElem?_eq_some_iff.mp h
    obtain ⟨h1, h2⟩ := this
    have : s.objs.set (s.sz - 1 - n) o = s.objs := by
      rw [← h2]
      exact List.set_getElem_self h1
    rw [this]
  · cases h
theorem pop_push' {s : Sto} {b : Nat} {o : O} (h : b ≤ s.sz) : (s.push o).pop b = s.pop b := by
  unfold Sto.pop Sto.push
  have e : s.sz + 1 - b = (s.sz - b) + 1 := by omega
  simp only [e, List.drop_succ_cons]
theorem pop_put_ge {s : Sto} {b n : Nat} {o : O} (h : b ≤ n) (hn : n < s.sz) : (s.put n o).pop b = s.pop b := by
  unfold Sto.pop Sto.put
  simp only [List.drop_set]
  rw [if_pos (by omega)]
theorem pop_put_lt {s : Sto} {b n : Nat} {o : O} (h : n < b) (hb : b ≤ s.sz) : (s.put n o).pop b = (s.pop b).put n o := by
  unfold Sto.pop Sto.put
  simp only [List.drop_set]
  rw [if_neg (by omega)]
  congr 2
  omega
@[simp] theorem pop_self' (s : Sto) : s.pop s.sz = s := pop_self s
theorem pop_pop {s : Sto} {b c : Nat} (h : b ≤ c) (hc : c ≤ s.sz) : (s.pop c).pop b = s.pop b := by
  unfold Sto.pop
  simp only [List.drop_drop]
  congr 2
  omega

/-! ### what is given back -/
theorem pop_sz {s : Sto} {b : Nat} (h : s.sz = b) : s.pop b = s := by
  subst h
  exact pop_self s
@[simp] theorem pop_put_own (s : Sto) (n : Nat) (o : O) : (s.put n o).pop s.sz = s.put n o := pop_sz rfl
@[simp] theorem pop_put_own2 (s : Sto) (n k : Nat) (o u : O) : ((s.put n o).put k u).pop s.sz = (s.put n o).put k u := pop_sz rfl
@[simp] theorem pop_pushes2 (s : Sto) (o0 o1 : O) : ((s.push o0).push o1).pop s.sz = s := by
  rw [pop_push' (by simp only [sz_push]; omega)]; rw [pop_push]
@[simp] theorem pop_pput2 (s : Sto) (k : Nat) (u o0 : O) : ((s.put k u).push o0).pop s.sz = s.put k u := by
  rw [pop_push' (by simp only [sz_push, sz_put]; omega)]; rw [pop_put_own]
@[simp] theorem pop_pushes3 (s : Sto) (o0 o1 o2 : O) : (((s.push o0).push o1).push o2).pop s.sz = s := by
  rw [pop_push' (by simp only [sz_push]; omega)]; rw [pop_push' (by simp only [sz_push]; omega)]; rw [pop_push]
@[simp] theorem pop_pput3 (s : Sto) (k : Nat) (u o0 o1 : O) : (((s.put k u).push o0).push o1).pop s.sz = s.put k u := by
  rw [pop_push' (by simp only [sz_push, sz_put]; omega)]; rw [pop_push' (by simp only [sz_push, sz_put]; omega)]; rw [pop_put_own]
@[simp] theorem pop_pushes4 (s : Sto) (o0 o1 o2 o3 : O) : ((((s.push o0).push o1).push o2).push o3).pop s.sz = s := by
  rw [pop_push' (by simp only [sz_push]; omega)]; rw [pop_push' (by simp only [sz_push]; omega)]; rw [pop_push' (by simp only [sz_push]; omega)]; rw [pop_push]
@[simp] theorem pop_pput4 (s : Sto) (k : Nat) (u o0 o1 o2 : O) : ((((s.put k u).push o0).push o1).push o2).pop s.sz = s.put k u := by
  rw [pop_push' (by simp only [sz_push, sz_put]; omega)]; rw [pop_push' (by simp only [sz_push, sz_put]; omega)]; rw [pop_push' (by simp only [sz_push, sz_put]; omega)]; rw [pop_put_own]
@[simp] theorem pop_pushes5 (s : Sto) (o0 o1 o2 o3 o4 : O) : (((((s.push o0).push o1).push o2).push o3).push o4).pop s.sz = s := by
  rw [pop_push' (by simp only [sz_push]; omega)]; rw [pop_push' (by simp only [sz_push]; omega)]; rw [pop_push' (by simp only [sz_push]; omega)]; rw [pop_push' (by simp only [sz_push]; omega)]; rw [pop_push]
@[simp] theorem pop_pput5 (s : Sto) (k : Nat) (u o0 o1 o2 o3 : O) : (((((s.put k u).push o0).push o1).push o2).push o3).pop s.sz = s.put k u := by
  rw [pop_push' (by simp only [sz_push, sz_put]; omega)]; rw [pop_push' (by simp only [sz_push, sz_put]; omega)]; rw [pop_push' (by simp only [sz_push, sz_put]; omega)]; rw [pop_push' (by simp only [sz_push, sz_put]; omega)]; rw [pop_put_own]
@[simp] theorem pop_pushes6 (s : Sto) (o0 o1 o2 o3 o4 o5 : O) : ((((((s.push o0).push o1).push o2).push o3).push o4).push o5).pop s.sz = s := by
  rw [pop_push' (by simp only [sz_push]; omega)]; rw [pop_push' (by simp only [sz_push]; omega)]; rw [pop_push' (by simp only [sz_push]; omega)]; rw [pop_push' (by simp only [sz_push]; omega)]; rw [pop_push' (by simp only [sz_push]; omega)]; rw [pop_push]
@[simp] theorem pop_pput6 (s : Sto) (k : Nat) (u o0 o1 o2 o3 o4 : O) : ((((((s.put k u).push o0).push o1).push o2).push o3).push o4).pop s.sz = s.put k u := by
  rw [pop_push' (by simp only [sz_push, sz_put]; omega)]; rw [pop_push' (by simp only [sz_push, sz_put]; omega)]; rw [pop_push' (by simp only [sz_push, sz_put]; omega)]; rw [pop_push' (by simp only [sz_push, sz_put]; omega)]; rw [pop_push' (by simp only [sz_push, sz_put]; omega)]; rw [pop_put_own]
@[simp] theorem pop_pushes7 (s : Sto) (o0 o1 o2 o3 o4 o5 o6 : O) : (((((((s.push o0).push o1).push o2).push o3).push o4).push o5).push o6).pop s.sz = s := by
  rw [pop_push' (by simp only [sz_push]; omega)]; rw [pop_push' (by simp only [sz_push]; omega)]; rw [pop_push' (by simp only [sz_push]; omega)]; rw [pop_push' (by simp only [sz_push]; omega)]; rw [pop_push' (by simp only [sz_push]; omega)]; rw [pop_push' (by simp only [sz_push]; omega)]; rw [pop_push]
@[simp] theorem pop_pput7 (s : Sto) (k : Nat) (u o0 o1 o2 o3 o4 o5 : O) : (((((((s.put k u).push o0).push o1).push o2).push o3).push o4).push o5).pop s.sz = s.put k u := by
  rw [pop_push' (by simp only [sz_push, sz_put]; omega)]; rw [pop_push' (by simp only [sz_push, sz_put]; omega)]; rw [pop_push' (by simp only [sz_push, sz_put]; omega)]; rw [pop_push' (by simp only [sz_push, sz_put]; omega)]; rw [pop_push' (by simp only [sz_push, sz_put]; omega)]; rw [pop_push' (by simp only [sz_push, sz_put]; omega)]; rw [pop_put_own]
@[simp] theorem pop_pushes8 (s : Sto) (o0 o1 o2 o3 o4 o5 o6 o7 : O) : ((((((((s.push o0).push o1).push o2).push o3).push o4).push o5).push o6).push o7).pop s.sz = s := by
  rw [pop_push' (by simp only [sz_push]; omega)]; rw [pop_push' (by simp only [sz_push]; omega)]; rw [pop_push' (by simp only [sz_push]; omega)]; rw [pop_push' (by simp only [sz_push]; omega)]; rw [pop_push' (by simp only [sz_push]; omega)]; rw [pop_push' (by simp only [sz_push]; omega)]; rw [pop_push' (by simp only [sz_push]; omega)]; rw [pop_push]
@[simp] theorem pop_pput8 (s : Sto) (k : Nat) (u o0 o1 o2 o3 o4 o5 o6 : O) : ((((((((s.put k u).push o0).push o1).push o2).push o3).push o4).push o5).push o6).pop s.sz = s.put k u := by
  rw [pop_push' (by simp only [sz_push, sz_put]; omega)]; rw [pop_push' (by simp only [sz_push, sz_put]; omega)]; rw [pop_push' (by simp only [sz_push, sz_put]; omega)]; rw [pop_push' (by simp only [sz_push, sz_put]; omega)]; rw [pop_push' (by simp only [sz_push, sz_put]; omega)]; rw [pop_push' (by simp only [sz_push, sz_put]; omega)]; rw [pop_push' (by simp only [sz_push, sz_put]; omega)]; rw [pop_put_own]
theorem gc_of {b : Nat} {d : D} {s : Sto} (h : D.lo b d = true) : gc b d s = (d, s.pop b) := by
  unfold gc
  by_cases e : s.sz = b
  · rw [if_pos (by rw [Nat.beq_eq]; exact e), pop_sz e]
  · rw [if_neg (by rw [Nat.beq_eq]; exact e)]
    unfold D.lo at h
    split
    · rw [if_pos h]
    · rw [if_pos h]
    · rfl
@[simp] theorem gc_int (b : Nat) (i : Int) (s : Sto) : gc b (.int i) s = (.int i, s.pop b) := gc_of rfl
@[simp] theorem gc_bl (b : Nat) (i : Bool) (s : Sto) : gc b (.bl i) s = (.bl i, s.pop b) := gc_of rfl
@[simp] theorem gc_str (b : Nat) (i : Str) (s : Sto) : gc b (.str i) s = (.str i, s.pop b) := gc_of rfl
@[simp] theorem gc_non (b : Nat) (s : Sto) : gc b .non s = (.non, s.pop b) := gc_of rfl
theorem gc_tup {b : Nat} {ds : List D} {s : Sto} (h : D.los b ds = true) : gc b (.tup ds) s = (.tup ds, s.pop b) := gc_of (by unfold D.lo; exact h)
theorem gc_ref_old {b n : Nat} {s : Sto} (h : n < b) : gc b (.ref n) s = (.ref n, s.pop b) := gc_of (by unfold D.lo; rw [Nat.blt_eq]; exact h)
/-- a list made in this piece alone -/
theorem gc_ref_new {b n : Nat} {s : Sto} {o : O} (hn : b ≤ n) (h : s.get n = some o) (hl : o.lo b = true): gc b (.ref n) s = (.ref b, (s.pop b).push o) := by
  unfold gc
  have := get_lt h
  rw [if_neg (by rw [Nat.beq_eq]; omega)]
  show (if Nat.blt n b = true then _ else _) = _
  rw [if_neg (by rw [Nat.blt_eq]; omega), h]
  show (if O.lo b o = true then _ else _) = _
  rw [if_pos hl]
theorem los_nil (b : Nat) : D.los b [] = true := rfl
theorem los_cons (b : Nat) (d : D) (r : List D) : D.los b (d :: r) = (d.lo b && D.los b r) := rfl
theorem lo_tup (b : Nat) (ds : List D) : D.lo b (.tup ds) = D.los b ds := by
  show D.lo b (.tup ds) = _
  unfold D.lo
  rfl
@[simp] theorem lo_int (b : Nat) (i : Int) : D.lo b (.int i) = true := rfl
@[simp] theorem lo_bl (b : Nat) (i : Bool) : D.lo b (.bl i) = true := rfl
@[simp] theorem lo_str (b : Nat) (i : Str) : D.lo b (.str i) = true := rfl
@[simp] theorem lo_non (b : Nat) : D.lo b .non = true := rfl
theorem lo_ref (b n : Nat) : D.lo b (.ref n) = Nat.blt n b := rfl
theorem los_of {b : Nat} {ds : List D} (h : ∀ d ∈ ds, D.lo b d = true) : D.los b ds = true := by
  rw [los_all, List.all_eq_true]
  exact h
theorem los_map {α : Type} {b : Nat} {f : α → D} {l : List α} (h : ∀ a ∈ l, D.lo b (f a) = true) : D.los b (l.map f) = true := by
  apply los_of
  intro d hd
  obtain ⟨a, ha, rfl⟩ := List.mem_map.mp hd
  exact h a ha
@[simp] theorem los_ints (b : Nat) (is : List Int) : D.los b (is.map D.int) = true := los_map fun _ _ => rfl
end DL
end S_PLb
section S_PLc
set_option Elab.async false
set_option linter.all false
set_option maxRecDepth 100000
set_option autoImplicit false
namespace DL
open PySem PySem.Spec PyProof.Rows L2 L2H

/-! ### operators: equations -/
section
variable (i j : Int) (x y : Bool) (st : Sto)
theorem blt_lit {a : Nat} (h : a < 18446744073709551616) : Nat.blt a two64 = true := by rw [Nat.blt_eq]; exact h
@[simp] theorem oAdd_int : oAdd (.int i) (.int j) st = .ok (.int (i + j)) st := rfl
@[simp] theorem oSub_int : oSub (.int i) (.int j) st = .ok (.int (i - j)) st := rfl
@[simp] theorem oNeg_int : oNeg (.int i) st = .ok (.int (-i)) st := rfl
@[simp] theorem oLt_int : oLt (.int i) (.int j) st = .ok (.bl (decide (i < j))) st := rfl
@[simp] theorem oLe_int : oLe (.int i) (.int j) st = .ok (.bl (decide (i ≤ j))) st := rfl
@[simp] theorem oGt_int : oGt (.int i) (.int j) st = .ok (.bl (decide (j < i))) st := rfl
@[simp] theorem oGe_int : oGe (.int i) (.int j) st = .ok (.bl (decide (j ≤ i))) st := rfl
@[simp] theorem oEq_int : oEq (.int i) (.int j) st = .ok (.bl (i == j)) st := rfl
@[simp] theorem oNe_int : oNe (.int i) (.int j) st = .ok (.bl (!(i == j))) st := rfl
@[simp] theorem oEq_bl : oEq (.bl x) (.bl y) st = .ok (.bl (x == y)) st := by
  cases x <;> cases y <;> rfl
@[simp] theorem oNe_bl : oNe (.bl x) (.bl y) st = .ok (.bl (!(x == y))) st := by
  cases x <;> cases y <;> rfl
theorem oMul_int (h : Nat.blt i.natAbs two64 = true ∨ Nat.blt j.natAbs two64 = true) : oMul (.int i) (.int j) st = .ok (.int (i * j)) st := by
  show (if (Nat.blt i.natAbs two64 || Nat.blt j.natAbs two64) = true then _ else _) = _
  rw [if_pos (by rw [Bool.or_eq_true]; exact h)]
theorem oMul_r (h : j.natAbs < 18446744073709551616) : oMul (.int i) (.int j) st = .ok (.int (i * j)) st := oMul_int _ _ _ (.inr (blt_lit h))
theorem oMul_l (h : i.natAbs < 18446744073709551616) : oMul (.int i) (.int j) st = .ok (.int (i * j)) st := oMul_int _ _ _ (.inl (blt_lit h))
theorem oDiv_int (h : j ≠ 0) (h2 : Nat.blt j.natAbs two30 = true) : oDiv (.int i) (.int j) st = .ok (.int (i.fdiv j)) st := by
  show (if (!(j == 0) && Nat.blt j.natAbs two30) = true then _ else _) = _
  rw [if_pos (by rw [h2]; simp [h])]
theorem oMod_int (h : j ≠ 0) : oMod (.int i) (.int j) st = .ok (.int (i.fmod j)) st := by
  show (if (!(j == 0)) = true then _ else _) = _
  rw [if_pos (by simp [h])]
theorem oAdd_tup (xs ys : List D) (h : xs.length + ys.length ≤ LIM) : oAdd (.tup xs) (.tup ys) st = .ok (.tup (xs ++ ys)) st := by
  show (if Nat.ble (xs.length + ys.length) LIM = true then _ else _) = _
  rw [if_pos (by rw [Nat.ble_eq]; exact h)]
theorem oAdd_ref {n k : Nat} {xs ys : List D} (h1 : st.get n = some (.lst xs)) (h2 : st.get k = some (.lst ys)) (h : xs.length + ys.length ≤ LIM) : oAdd (.ref n) (.ref k) st = .ok (.ref st.sz) (st.push (.lst (xs ++ ys))) := by
  show (match st.get n, st.get k with
      | some (.lst xs), some (.lst ys) => if Nat.ble (xs.length + ys.length) LIM = true then Rs.ok (D.ref st.sz) (st.push (.lst (xs ++ ys))) else .no
      | _, _ => .no) = _
  rw [h1, h2]
  show (if Nat.ble (xs.length + ys.length) LIM = true then _ else _) = _
  rw [if_pos (by rw [Nat.ble_eq]; exact h)]
@[simp] theorem bLen_tup (xs : List D) : bLen [.tup xs] st = .ok (.int xs.length) st := rfl
theorem bLen_ref {n : Nat} {xs : List D} (h : st.list n = some xs) : bLen [.ref n] st = .ok (.int xs.length) st := by
  unfold bLen
  simp only [h]
@[simp] theorem bTuple_tup (xs : List D) : bTuple [.tup xs] st = .ok (.tup xs) st := rfl
theorem bTuple_ref {n : Nat} {xs : List D} (h : st.list n = some xs) : bTuple [.ref n] st = .ok (.tup xs) st := by
  unfold bTuple
  simp only [h]
@[simp] theorem bList_tup (xs : List D) : bList [.tup xs] st = .ok (.ref st.sz) (st.push (.lst xs)) := rfl
theorem bList_ref {n : Nat} {xs : List D} (h : st.list n = some xs) : bList [.ref n] st = .ok (.ref st.sz) (st.push (.lst xs)) := by
  unfold bList
  simp only [h]
theorem intsOf_map (is : List Int) : intsOf (is.map D.int) = some is := by
  induction is with
  | nil => rfl
  | cons i r ih =>
    show (match intsOf (r.map D.int) with
      | some is => some (i :: is)
      | none => none) = _
    rw [ih]
theorem blsOf_map (is : List Bool) : blsOf (is.map D.bl) = some is := by
  induction is with
  | nil => rfl
  | cons i r ih =>
    show (match blsOf (r.map D.bl) with
      | some is => some (i :: is)
      | none => none) = _
    rw [ih]
theorem bMax_ref {n : Nat} {i : Int} {is : List Int} (h : st.list n = some ((i :: is).map D.int)) : bMax [.ref n] st = .ok (.int (maxI i is)) st := by
  unfold bMax
  simp only [h, intsOf_map]
theorem bMin_ref {n : Nat} {i : Int} {is : List Int} (h : st.list n = some ((i :: is).map D.int)) : bMin [.ref n] st = .ok (.int (minI i is)) st := by
  unfold bMin
  simp only [h, intsOf_map]
@[simp] theorem bMin_two : bMin [.int i, .int j] st = .ok (.int (min i j)) st := by
  show Rs.ok (D.int (if j < i then j else i)) st = _
  congr 2
  omega
@[simp] theorem bMax_two : bMax [.int i, .int j] st = .ok (.int (max i j)) st := by
  show Rs.ok (D.int (if j > i then j else i)) st = _
  congr 2
  omega
theorem bAny_ref {n : Nat} {ks : List Bool} (h : st.list n = some (ks.map D.bl)) : bAny [.ref n] st = .ok (.bl (ks.any id)) st := by
  unfold bAny
  simp only [h, blsOf_map]
theorem bAll_ref {n : Nat} {ks : List Bool} (h : st.list n = some (ks.map D.bl)) : bAll [.ref n] st = .ok (.bl (ks.all id)) st := by
  unfold bAll
  simp only [h, blsOf_map]
theorem bSum_ref {n : Nat} {ks : List Int} (h : st.list n = some (ks.map D.int)) : bSum [.ref n] st = .ok (.int ks.sum) st := by
  unfold bSum
  simp only [h, intsOf_map]
@[simp] theorem bInt_int : bInt [.int i] st = .ok (.int i) st := rfl
theorem oIx_tup {ds : List D} {d : D} (h : L2.atI ds i = some d) : oIx (.tup ds) (.int i) st = .ok d st := by
  show (match L2.atI ds i with
      | some d => Rs.ok d st
      | none => .no) = _
  rw [h]
theorem oIx_ref {n : Nat} {ds : List D} {d : D} (hl : st.list n = some ds) (h : L2.atI ds i = some d) : oIx (.ref n) (.int i) st = .ok d st := by
  unfold oIx
  simp only [hl, h]
end
theorem atI_nat {α : Type} {ds : List α} {k : Nat} (h : k < ds.length) : L2.atI ds (k : Int) = ds[k]? := by
  unfold L2.atI L2.ixN
  rw [if_pos (by omega), if_pos (by omega)]
  rfl
end DL
end S_PLc
section S_PLd
set_option Elab.async false
set_option linter.all false
set_option maxRecDepth 100000
set_option autoImplicit false
namespace DL
open PySem PySem.Spec PyProof.Rows L2 L2H

/-! ### walks and comprehensions -/
def seqW (d : D) (s : Sto) : Rs Wk := match d with
  | .tup ds => .ok (.sn ds) s
  | .ref n => match s.list n with
    | some _ => .ok (.lv fun i st => match st.list n with
      | some ds => some ds[i]?
      | none => none) s
    | none => .no
  | _ => .no
theorem wSeq_eq (f : Ex) (b : Nat) (env : Env) (st : Sto) : wSeq f b env st = (f b env st).bind seqW := by
  unfold wSeq
  cases f b env st with
  | ok d s => cases d <;> rfl
  | er x s => rfl
  | no => rfl
@[simp] theorem seqW_tup (ds : List D) (s : Sto) : seqW (.tup ds) s = .ok (.sn ds) s := rfl
theorem seqW_ref {n : Nat} {ds : List D} {s : Sto} (h : s.list n = some ds) : seqW (.ref n) s = .ok (.lv fun i st => match st.list n with
      | some ds => some ds[i]?
      | none => none) s := by
  unfold seqW
  simp only [h]
def rng (a : Int) (n : Nat) : List D := (List.range n).map fun k : Nat => D.int (a + (k : Int))
theorem intsFrom_eq (a : Int) : ∀ n, intsFrom a 1 n = rng a n
  | 0 => rfl
  | n + 1 => by
    unfold intsFrom rng
    rw [intsFrom_eq (a + 1) n, List.range_succ_eq_map]
    unfold rng
    simp only [List.map_cons, List.map_map]
    congr 1
    · simp
    · apply List.map_congr_left
      intro k _
      show D.int (a + 1 + (k : Int)) = D.int (a + ((k + 1 : Nat) : Int))
      congr 1
      omega
theorem rng_int (n : Nat) : rng 0 n = (List.range n).map fun k : Nat => D.int (k : Int) := by
  unfold rng
  apply List.map_congr_left
  intro k _
  simp
def rngW (ds : List D) (s : Sto) : Rs Wk := match ds with
  | [.int n] => if (rg n && lim n.toNat) = true then .ok (.sn (intsFrom 0 1 n.toNat)) s else .no
  | _ => .no
theorem wRange1_eq (f : Ar) (b : Nat) (env : Env) (st : Sto) : wRange1 f b env st = (f b env st).bind rngW := by
  unfold wRange1 rngW
  cases f b env st with
  | ok d s =>
    rcases d with _ | ⟨d, _ | ⟨e, r⟩⟩
    · rfl
    · cases d <;> rfl
    · cases d <;> rfl
  | er x s => rfl
  | no => rfl
theorem rngW_nat {n : Nat} (h : n ≤ 1000000) (s : Sto) : rngW [.int (n : Int)] s = .ok (.sn ((List.range n).map fun k : Nat => D.int (k : Int))) s := by
  show (if (rg n && lim (n : Int).toNat) = true then _ else _) = _
  rw [if_pos]
  · rw [show (n : Int).toNat = n from rfl, intsFrom_eq, rng_int]
  · unfold rg lim
    rw [Bool.and_eq_true, Nat.blt_eq, Nat.ble_eq]
    show n < 4611686018427387904 ∧ n ≤ 1000000
    omega
def enumW (ds : List D) (s : Sto) : Rs Wk := match ds with
  | [.tup ds] => .ok (.sn (enumD 0 ds)) s
  | [.ref n] => match s.list n with
    | some _ => .ok (.lv fun i st => match st.list n with
      | some ds => some (match ds[i]? with
        | some d => some (.tup [.int i, d])
        | none => none)
      | none => none) s
    | none => .no
  | _ => .no
theorem wEnum_eq (f : Ar) (b : Nat) (env : Env) (st : Sto) : wEnum f b env st = (f b env st).bind enumW := by
  unfold wEnum enumW
  cases f b env st with
  | ok d s =>
    rcases d with _ | ⟨d, _ | ⟨e, r⟩⟩
    · rfl
    · cases d <;> rfl
    · cases d <;> rfl
  | er x s => rfl
  | no => rfl
@[simp] theorem enumW_tup (ds : List D) (s : Sto) : enumW [.tup ds] s = .ok (.sn (enumD 0 ds)) s := rfl
theorem enumD_len : ∀ (ds : List D) (k : Nat), (enumD k ds).length = ds.length
  | [], _ => rfl
  | d :: r, k => by simp [enumD, enumD_len r]

theorem forS_inv {t : Tg} {f : Stm} {b : Nat} (P : Nat → Env → Sto → Prop) : ∀ {ds : List D} {k : Nat} {env : Env} {st : Sto}, P k env st →
    (∀ i d e s, ds[i]? = some d → P (k + i) e s → ∃ e1, t d e = some e1 ∧ ∃ e2 s2, f b e1 s = .nx e2 s2 ∧ P (k + i + 1) e2 s2) → ∃ e s, forS t f b ds env st = .nx e s ∧ P (k + ds.length) e s
  | [], k, env, st, h0, h => ⟨env, st, rfl, h0⟩
  | d :: r, k, env, st, h0, h => by
    obtain ⟨e1, h1, e2, s2, h2, h3⟩ := h 0 d env st rfl h0
    obtain ⟨e, s, q1, q2⟩ := forS_inv (t := t) (f := f) (b := b) P (ds := r) (k := k + 1) h3 (fun i d e s hd hp => by
      have := h (i + 1) d e s (by simpa using hd) (by rw [show k + (i + 1) = k + 1 + i by omega]; exact hp)
      rw [show k + (i + 1) = k + 1 + i by omega] at this
      exact this)
    refine ⟨e, s, ?_, ?_⟩
    · unfold forS
      rw [h1]
      show (match f b e1 st with
        | .nx e s => forS t f b r e s
        | .ct e s => forS t f b r e s
        | .bk e s => .nx e s
        | .rt d s => .rt d s
        | .er x e s => .er x e s
        | .no => .no) = _
      rw [h2]
      exact q1
    · rw [List.length_cons, show k + (r.length + 1) = k + 1 + r.length by omega]
      exact q2
theorem sFor_sn {w : Wx} {t : Tg} {f : Stm} {b : Nat} {env : Env} {st s : Sto} {ds : List D} (h : w b env st = .ok (.sn ds) s) : sFor w t f b env st = forS t f b ds env s := by
  unfold sFor
  rw [h]
/-- a comprehension whose pieces leave the store as it was -/
theorem lcS_map {α : Type} {t : Tg} {tt : Te} {te : Ex} {env : Env} (q : α → D) (g : α → D) : ∀ {l : List α} {st : Sto},
    (∀ a ∈ l, ∃ e s1 y s2, t (q a) env = some e ∧ tt st.sz e st = .ok true s1 ∧ te st.sz e (s1.pop st.sz) = .ok y s2 ∧ gc st.sz y s2 = (g a, st)) → lcS t tt te env (l.map q) st = .ok (l.map g) st
  | [], st, _ => rfl
  | a :: r, st, h => by
    obtain ⟨e, s1, y, s2, h1, h2, h3, h4⟩ := h a List.mem_cons_self
    have ih := lcS_map q g (l := r) (st := st) (t := t) (tt := tt) (te := te) (env := env) fun a ha => h a (List.mem_cons_of_mem _ ha)
    show lcS t tt te env (q a :: r.map q) st = _
    unfold lcS
    simp only [h1, h2, h3, h4, ih]
    rfl
theorem lcS_filter {α : Type} {t : Tg} {tt : Te} {te : Ex} {env : Env} (q : α → D) (p : α → Bool) (g : α → D) : ∀ {l : List α} {st : Sto},
    (∀ a ∈ l, ∃ e s1, t (q a) env = some e ∧ tt st.sz e st = .ok (p a) s1 ∧ s1.pop st.sz = st ∧ (p a = true → ∃ y s2, te st.sz e st = .ok y s2 ∧ gc st.sz y s2 = (g a, st))) → lcS t tt te env (l.map q) st = .ok ((l.filter p).map g) st
  | [], st, _ => rfl
  | a :: r, st, h => by
    obtain ⟨e, s1, h1, h2, h0, h3⟩ := h a List.mem_cons_self
    have ih := lcS_filter q p g (l := r) (st := st) (t := t) (tt := tt) (te := te) (env := env) fun a ha => h a (List.mem_cons_of_mem _ ha)
    show lcS t tt te env (q a :: r.map q) st = _
    unfold lcS
    cases hp : p a with
    | false =>
      rw [hp] at h2
      simp only [h1, h2, h0, ih, List.filter_cons, hp]
      rfl
    | true =>
      obtain ⟨y, s2, h3, h4⟩ := h3 hp
      rw [hp] at h2
      simp only [h1, h2, h0, h3, h4, ih, List.filter_cons, hp]
      rfl
/-- a comprehension by its invariant -/
theorem lcS_inv {t : Tg} {tt : Te} {te : Ex} {env : Env} (P : Sto → Prop) (R : D → Prop) : ∀ {l : List D} {st : Sto}, P st →
    (∀ d st, d ∈ l → P st → ∃ e s1 y s2, t d env = some e ∧ tt st.sz e st = .ok true s1 ∧ te st.sz e (s1.pop st.sz) = .ok y s2 ∧ R (gc st.sz y s2).1 ∧ P (gc st.sz y s2).2) → ∃ ys s, lcS t tt te env l st = .ok ys s ∧ ys.length = l.length ∧ (∀ y ∈ ys, R y) ∧ P s
  | [], st, h0, _ => ⟨[], st, rfl, rfl, fun _ h => (nomatch h), h0⟩
  | d :: r, st, h0, h => by
    obtain ⟨e, s1, y, s2, h1, h2, h3, h4, h5⟩ := h d st List.mem_cons_self h0
    obtain ⟨ys, s, q1, q2, q3, q4⟩ := lcS_inv P R (l := r) (t := t) (tt := tt) (te := te) (env := env) h5 fun d st hd => h d st (List.mem_cons_of_mem _ hd)
    refine ⟨(gc st.sz y s2).1 :: ys, s, ?_, by simp [q2], fun z hz => ?_, q4⟩
    · unfold lcS
      simp only [h1, h2, h3, q1]
    · rcases List.mem_cons.mp hz with e | hz
      · subst e
        exact h4
      · exact q3 z hz
theorem lcW_sn {t : Tg} {tt : Te} {te : Ex} {env : Env} {ds : List D} {st : Sto} (h : ds.length ≤ 100000) : lcW t tt te env (.sn ds) st = lcS t tt te env ds st := by
  show (if Nat.ble ds.length FUEL = true then _ else _) = _
  rw [if_pos (by rw [Nat.ble_eq]; exact h)]
@[simp] theorem tYesT_eq (b : Nat) (env : Env) (st : Sto) : tYesT b env st = .ok true st := rfl

/-! ### sorted, of ints -/
def insI (d : Int) : List Int → List Int
  | [] => [d]
  | e :: r => if e < d then e :: insI d r else d :: e :: r
def sortI : List Int → List Int
  | [] => []
  | d :: r => insI d (sortI r)
theorem ins_map (d : Int) : ∀ l : List Int, ins (.int d) (l.map D.int) = (insI d l).map D.int
  | [] => rfl
  | e :: r => by
    show (if D.lt (.int e) (.int d) = true then D.int e :: ins (.int d) (r.map D.int) else _) = _
    unfold insI
    rw [show D.lt (.int e) (.int d) = decide (e < d) from rfl, ins_map d r]
    by_cases h : e < d
    · rw [if_pos (decide_eq_true h), if_pos h]
      rfl
    · rw [if_neg (by rw [decide_eq_true_eq]; exact h), if_neg h]
      rfl
theorem isort_map : ∀ l : List Int, isort (l.map D.int) = (sortI l).map D.int
  | [] => rfl
  | d :: r => by
    show ins (.int d) (isort (r.map D.int)) = _
    rw [isort_map r, ins_map]
    rfl
theorem insI_perm (d : Int) : ∀ l : List Int, (insI d l).Perm (d :: l)
  | [] => List.Perm.refl _
  | e :: r => by
    unfold insI
    split
    · exact ((insI_perm d r).cons e).trans (List.Perm.swap d e r)
    · exact List.Perm.refl _
theorem sortI_perm : ∀ l : List Int, (sortI l).Perm l
  | [] => List.Perm.refl _
  | d :: r => (insI_perm d _).trans ((sortI_perm r).cons d)
theorem sortI_sorted : ∀ l : List Int, (sortI l).Pairwise (· ≤ ·)
  | [] => List.Pairwise.nil
  | d :: r => by
    have key : ∀ l : List Int, l.Pairwise (· ≤ ·) → (insI d l).Pairwise (· ≤ ·) := by
      intro l
      induction l with
      | nil => intro _; exact List.pairwise_singleton _ _
      | cons e r ih =>
        intro h
        have h := List.pairwise_cons.mp h
        unfold insI
        split
        · rename_i q
          refine List.pairwise_cons.mpr ⟨fun y hy => ?_, ih h.2⟩
          rcases List.mem_cons.mp ((insI_perm d r).mem_iff.mp hy) with z | z
          · omega
          · exact h.1 y z
        · rename_i q
          refine List.pairwise_cons.mpr ⟨fun y hy => ?_, List.pairwise_cons.mpr h⟩
          rcases List.mem_cons.mp hy with z | z
          · omega
          · have := h.1 y z
            omega
    exact key _ (sortI_sorted r)
theorem sorted_uniq : ∀ {l m : List Int}, l.Pairwise (· ≤ ·) → m.Pairwise (· ≤ ·) → l.Perm m → l = m
  | [], m, _, _, h => (List.Perm.eq_nil h.symm).symm
  | x :: l, [], _, _, h => absurd h.length_eq (by simp)
  | x :: l, y :: m, hl, hm, h => by
    have hl := List.pairwise_cons.mp hl
    have hm := List.pairwise_cons.mp hm
    have e : x = y := by
      have h1 : y ≤ x := by
        rcases List.mem_cons.mp (h.mem_iff.mp (List.mem_cons_self (a := x) (l := l))) with e | hx
        · omega
        · exact hm.1 x hx
      have h2 : x ≤ y := by
        rcases List.mem_cons.mp (h.mem_iff.mpr (List.mem_cons_self (a := y) (l := m))) with e | hy
        · omega
        · exact hl.1 y hy
      omega
    subst e
    rw [sorted_uniq hl.2 hm.2 h.cons_inv]
theorem sortI_uniq {l m : List Int} (h : l.Perm m) : sortI l = sortI m := sorted_uniq (sortI_sorted l) (sortI_sorted m) ((sortI_perm l).trans (h.trans (sortI_perm m).symm))
theorem sortI_len (l : List Int) : (sortI l).length = l.length := (sortI_perm l).length_eq
@[simp] theorem gks_ints (n : Nat) : ∀ l : List Int, D.gks n (l.map D.int) = true
  | [] => by cases n <;> rfl
  | i :: r => by
    show (D.gk n (.int i) && D.gks n (r.map D.int)) = true
    rw [gks_ints n r]
    cases n <;> rfl
theorem cmpAll_ints : ∀ l : List Int, cmpAll (l.map D.int) = true
  | [] => rfl
  | i :: r => by
    show (((r.map D.int).all fun e => cmpb (.int i) e || D.beq (.int i) e) && cmpAll (r.map D.int)) = true
    rw [cmpAll_ints r, Bool.and_true, List.all_eq_true]
    intro e he
    obtain ⟨j, _, rfl⟩ := List.mem_map.mp he
    rfl
theorem bSorted_items {d : D} {st : Sto} {l : List Int} (h : itemsOf d st = some (l.map D.int)) (hl : l.length ≤ 1000000) : bSorted [d] st = .ok (.ref st.sz) (st.push (.lst ((sortI l).map D.int))) := by
  unfold bSorted
  simp only [h]
  rw [if_pos, isort_map]
  rw [gks_ints, cmpAll_ints, List.length_map]
  show Nat.ble l.length 1000000 = true
  rw [Nat.ble_eq]
  exact hl
theorem bSorted_tup {st : Sto} {l : List Int} (hl : l.length ≤ 1000000) : bSorted [.tup (l.map D.int)] st = .ok (.ref st.sz) (st.push (.lst ((sortI l).map D.int))) := bSorted_items rfl hl
theorem bSorted_ref {st : Sto} {n : Nat} {l : List Int} (h : st.list n = some (l.map D.int)) (hl : l.length ≤ 1000000) : bSorted [.ref n] st = .ok (.ref st.sz) (st.push (.lst ((sortI l).map D.int))) := bSorted_items (by unfold itemsOf; simp only [h]) hl

/-! ### slices -/
theorem cut_take {α : Type} (ds : List α) {k : Nat} (h : k ≤ ds.length) : cutD ds none (some (k : Int)) = ds.take k := by
  have e : HT.sIx ds.length ds.length (some (k : Int)) = k := by rw [HT.sIx_nat]; omega
  unfold cutD
  rw [e, HT.sIx_none]
  simp
theorem cut_drop {α : Type} (ds : List α) {k : Nat} (h : k ≤ ds.length) : cutD ds (some (k : Int)) none = ds.drop k := by
  have e : HT.sIx ds.length 0 (some (k : Int)) = k := by rw [HT.sIx_nat]; omega
  unfold cutD
  rw [e, HT.sIx_none]
  rw [List.take_of_length_le (by rw [List.length_drop]; omega)]
end DL
end S_PLd
section S_PLe
set_option Elab.async false
set_option linter.all false
set_option maxRecDepth 100000
set_option autoImplicit false
namespace DL
open PySem PySem.Spec PyProof.Rows L2 L2H

/-! ### dicts -/
theorem gget_cons (k : List D) (p : List D × D) (r : List (List D × D)) : gget k (p :: r) = if p.1 = k then some p.2 else gget k r := by
  show (match D.beqs p.1 k with
    | true => some p.2
    | false => gget k r) = _
  rw [beqs_dec]
  by_cases h : p.1 = k
  · rw [if_pos h, decide_eq_true h]
  · rw [if_neg h, decide_eq_false h]
theorem gget_none {k : List D} : ∀ {kvs : List (List D × D)}, gget k kvs = none → ∀ p ∈ kvs, p.1 ≠ k
  | [], _, _, h => (nomatch h)
  | q :: r, h, p, hp => by
    rw [gget_cons] at h
    split at h
    · cases h
    · rename_i e
      rcases List.mem_cons.mp hp with z | z
      · subst z
        exact e
      · exact gget_none h p z
theorem gget_append (k : List D) (v : D) (k' : List D) : ∀ {kvs : List (List D × D)}, gget k' (kvs ++ [(k, v)]) = (gget k' kvs).or (if k = k' then some v else none)
  | [] => by
    show gget k' [(k, v)] = _
    rw [gget_cons]
    rfl
  | p :: r => by
    rw [List.cons_append, gget_cons, gget_cons, gget_append k v k']
    split <;> rfl
theorem gget_upd (k : List D) (v : D) (k' : List D) : ∀ {kvs : List (List D × D)}, gget k' (kvs.map fun p => match D.beqs p.1 k with
    | true => (p.1, v)
    | false => p) = if k' = k then (gget k kvs).map fun _ => v else gget k' kvs
  | [] => by
    show none = _
    split <;> rfl
  | p :: r => by
    rw [List.map_cons, gget_cons, gget_cons, gget_cons, gget_upd k v k']
    rw [beqs_dec]
    by_cases h : p.1 = k
    · rw [decide_eq_true h]
      show (if p.1 = k' then some v else _) = _
      by_cases h2 : k' = k
      · rw [if_pos (by rw [h, h2]), if_pos h2, if_pos h]
        rfl
      · rw [if_neg (by rw [h]; exact fun z => h2 z.symm), if_neg h2, if_neg h2, if_neg (by rw [h]; exact fun z => h2 z.symm)]
    · rw [decide_eq_false h]
      show (if p.1 = k' then some p.2 else _) = _
      by_cases h2 : k' = k
      · rw [if_neg (by rw [h2]; exact h), if_pos h2, if_pos h2, if_neg h]
      · rw [if_neg h2, if_neg h2]
theorem gget_gset (k : List D) (v : D) (k' : List D) (kvs : List (List D × D)) : gget k' (gset k v kvs) = if k' = k then some v else gget k' kvs := by
  unfold gset
  cases h : gget k kvs with
  | some d =>
    refine (gget_upd k v k').trans ?_
    rw [h]
    rfl
  | none =>
    show gget k' (kvs ++ [(k, v)]) = _
    rw [gget_append]
    by_cases e : k' = k
    · subst e
      rw [h, if_pos rfl]
      rfl
    · rw [if_neg e]
      rw [if_neg (fun z => e z.symm)]
      cases gget k' kvs <;> rfl
theorem gset_len (k : List D) (v : D) (kvs : List (List D × D)) : (gset k v kvs).length ≤ kvs.length + 1 := by
  unfold gset
  split <;> simp
theorem dget_cons (k : Key) (p : Key × D) (r : List (Key × D)) : dget k (p :: r) = if p.1 = k then some p.2 else dget k r := by
  show (match decide (p.1 = k) with
    | true => some p.2
    | false => dget k r) = _
  by_cases h : p.1 = k
  · rw [if_pos h, decide_eq_true h]
  · rw [if_neg h, decide_eq_false h]
theorem dget_append (k : Key) (v : D) (k' : Key) : ∀ {kvs : List (Key × D)}, dget k' (kvs ++ [(k, v)]) = (dget k' kvs).or (if k = k' then some v else none)
  | [] => by
    show dget k' [(k, v)] = _
    rw [dget_cons]
    rfl
  | p :: r => by
    rw [List.cons_append, dget_cons, dget_cons, dget_append k v k']
    split <;> rfl
theorem dget_upd (k : Key) (v : D) (k' : Key) : ∀ {kvs : List (Key × D)}, dget k' (kvs.map fun p => match decide (p.1 = k) with
    | true => (p.1, v)
    | false => p) = if k' = k then (dget k kvs).map fun _ => v else dget k' kvs
  | [] => by
    show none = _
    split <;> rfl
  | p :: r => by
    rw [List.map_cons, dget_cons, dget_cons, dget_cons, dget_upd k v k']
    by_cases h : p.1 = k
    · rw [decide_eq_true h]
      show (if p.1 = k' then some v else _) = _
      by_cases h2 : k' = k
      · rw [if_pos (by rw [h, h2]), if_pos h2, if_pos h]
        rfl
      · rw [if_neg (by rw [h]; exact fun z => h2 z.symm), if_neg h2, if_neg h2, if_neg (by rw [h]; exact fun z => h2 z.symm)]
    · rw [decide_eq_false h]
      show (if p.1 = k' then some p.2 else _) = _
      by_cases h2 : k' = k
      · rw [if_neg (by rw [h2]; exact h), if_pos h2, if_pos h2, if_neg h]
      · rw [if_neg h2, if_neg h2]
theorem dget_dset (k : Key) (v : D) (k' : Key) (kvs : List (Key × D)) : dget k' (dset k v kvs) = if k' = k then some v else dget k' kvs := by
  unfold dset
  cases h : dget k kvs with
  | some d =>
    refine (dget_upd k v k').trans ?_
    rw [h]
    rfl
  | none =>
    show dget k' (kvs ++ [(k, v)]) = _
    rw [dget_append]
    by_cases e : k' = k
    · subst e
      rw [h, if_pos rfl]
      rfl
    · rw [if_neg e]
      rw [if_neg (fun z => e z.symm)]
      cases dget k' kvs <;> rfl
theorem dset_len (k : Key) (v : D) (kvs : List (Key × D)) : (dset k v kvs).length ≤ kvs.length + 1 := by
  unfold dset
  split <;> simp
section
variable {st : Sto} {n : Nat}
theorem list_dg {kvs : List (List D × D)} (h : st.get n = some (.dg kvs)) : st.list n = none := by
  unfold Sto.list
  rw [h]
theorem list_dk {kvs : List (Key × D)} (h : st.get n = some (.dk kvs)) : st.list n = none := by
  unfold Sto.list
  rw [h]
theorem look_dg {kvs : List (List D × D)} {ks : List D} (h : st.get n = some (.dg kvs)) (hk : D.gks 7 ks = true) : look st n (.tup ks) = some (gget ks kvs) := by
  unfold look Sto.raw
  rw [h]
  show (if D.gks 7 ks = true then _ else _) = _
  rw [if_pos hk]
theorem look_dk {kvs : List (Key × D)} {d : D} {k : Key} (h : st.get n = some (.dk kvs)) (hk : d.key = some k) : look st n d = some (dget k kvs) := by
  unfold look Sto.raw
  rw [h]
  show (match d.key with
    | some k => some (dget k kvs)
    | none => none) = _
  rw [hk]
theorem oNotIn_dg {kvs : List (List D × D)} {ks : List D} (h : st.get n = some (.dg kvs)) (hk : D.gks 7 ks = true) : oNotIn (.tup ks) (.ref n) st = .ok (.bl (!(gget ks kvs).isSome)) st := by
  unfold oNotIn dIn
  simp only [list_dg h, look_dg h hk]
theorem oIn_dg {kvs : List (List D × D)} {ks : List D} (h : st.get n = some (.dg kvs)) (hk : D.gks 7 ks = true) : oIn (.tup ks) (.ref n) st = .ok (.bl ((gget ks kvs).isSome)) st := by
  unfold oIn dIn
  simp only [list_dg h, look_dg h hk]
theorem oIx_dg {kvs : List (List D × D)} {ks : List D} {d : D} (h : st.get n = some (.dg kvs)) (hk : D.gks 7 ks = true) (hd : gget ks kvs = some d) : oIx (.ref n) (.tup ks) st = .ok d st := by
  unfold oIx
  simp only [list_dg h, look_dg h hk, hd]
theorem put1_dg {b : Nat} {kvs : List (List D × D)} {ks : List D} {e : D} (h : st.get n = some (.dg kvs)) (hk : D.gks 7 ks = true) (hl : kvs.length < 1000000) (hf : fits b n e = true) : put1 b (.ref n) (.tup ks) e st = some (st.put n (.dg (gset ks e kvs))) := by
  unfold put1
  simp only [h]
  rw [if_pos]
  rw [hk, hf, show Nat.blt kvs.length LIM = true by rw [Nat.blt_eq]; exact hl]
  rfl
theorem oNotIn_dk {kvs : List (Key × D)} {d : D} {k : Key} (h : st.get n = some (.dk kvs)) (hk : d.key = some k) : oNotIn d (.ref n) st = .ok (.bl (!(dget k kvs).isSome)) st := by
  unfold oNotIn dIn
  simp only [list_dk h, look_dk h hk]
theorem oIn_dk {kvs : List (Key × D)} {d : D} {k : Key} (h : st.get n = some (.dk kvs)) (hk : d.key = some k) : oIn d (.ref n) st = .ok (.bl ((dget k kvs).isSome)) st := by
  unfold oIn dIn
  simp only [list_dk h, look_dk h hk]
theorem oIx_dk {kvs : List (Key × D)} {e : D} {k : Key} {d : D} (h : st.get n = some (.dk kvs)) (hk : e.key = some k) (hd : dget k kvs = some d) : oIx (.ref n) e st = .ok d st := by
  unfold oIx
  simp only [list_dk h, look_dk h hk, hd]
theorem put1_dk {b : Nat} {kvs : List (Key × D)} {d : D} {k : Key} {e : D} (h : st.get n = some (.dk kvs)) (hk : d.key = some k) (hl : kvs.length < 1000000) (hf : fits b n e = true) : put1 b (.ref n) d e st = some (st.put n (.dk (dset k e kvs))) := by
  unfold put1
  simp only [h, hk]
  rw [if_pos]
  rw [hf, show Nat.blt kvs.length LIM = true by rw [Nat.blt_eq]; exact hl]
  rfl
@[simp] theorem fits_int (b n : Nat) (i : Int) : fits b n (.int i) = true := by
  unfold fits
  rw [lo_int, Bool.or_true]
@[simp] theorem fits_bl (b n : Nat) (i : Bool) : fits b n (.bl i) = true := by
  unfold fits
  rw [lo_bl, Bool.or_true]
@[simp] theorem fits_str (b n : Nat) (i : Str) : fits b n (.str i) = true := by
  unfold fits
  rw [lo_str, Bool.or_true]
@[simp] theorem fits_non (b n : Nat) : fits b n .non = true := by
  unfold fits
  rw [lo_non, Bool.or_true]
theorem fits_lo {b n : Nat} {d : D} (h : d.lo 0 = true) : fits b n d = true := by
  unfold fits
  rw [h, Bool.or_true]
theorem fits_le {b n : Nat} {d : D} (h : b ≤ n) : fits b n d = true := by
  unfold fits
  rw [show Nat.ble b n = true by rw [Nat.ble_eq]; exact h, Bool.true_or]
theorem mAppend_of {b : Nat} {ds : List D} {e : D} (h : st.get n = some (.lst ds)) (hl : ds.length < 1000000) (hf : fits b n e = true) : mAppend b (.ref n) [e] st = .ok .non (st.put n (.lst (ds ++ [e]))) := by
  unfold mAppend
  simp only [h]
  rw [if_pos]
  rw [hf, show Nat.blt ds.length LIM = true by rw [Nat.blt_eq]; exact hl]
  rfl
theorem isRv_lst {ds : List D} (h : st.list n = some ds) : isRv .lst (.ref n) st = true := by
  unfold isRv
  simp only [h]
  rfl
theorem put1_lst {b : Nat} {ds : List D} {i : Int} {j : Nat} {e : D} (h : st.get n = some (.lst ds)) (hi : ixN ds.length i = some j) (hf : fits b n e = true) : put1 b (.ref n) (.int i) e st = some (st.put n (.lst (ds.set j e))) := by
  unfold put1
  simp only [h, hi]
  rw [if_pos hf]
end
end DL
end S_PLe
section S_PLf
set_option Elab.async false
set_option linter.all false
set_option maxRecDepth 100000
set_option autoImplicit false
namespace DL
open PySem PySem.Spec PyProof.Rows L2 L2H

/-! ### equations that turn on what lies at a place -/
def ofD (o : Option D) (st : Sto) : Rs D := match o with
  | some d => .ok d st
  | none => .no
@[simp] theorem ofD_some (d : D) (st : Sto) : ofD (some d) st = .ok d st := rfl
@[simp] theorem oIx_tup_eq (ds : List D) (i : Int) (st : Sto) : oIx (.tup ds) (.int i) st = ofD (L2.atI ds i) st := rfl
@[simp] theorem cDg0_eq (b : Nat) (env : Env) (st : Sto) : cDg0 b env st = .ok (.ref st.sz) (st.push (.dg [])) := rfl
@[simp] theorem cDk0_eq (b : Nat) (env : Env) (st : Sto) : cDk0 b env st = .ok (.ref st.sz) (st.push (.dk [])) := rfl
def oIxR (o : Option (List D)) (n : Nat) (i : Int) (st : Sto) : Rs D := match o with
  | some ds => ofD (L2.atI ds i) st
  | none => match look st n (.int i) with
      | some (some d) => .ok d st
      | _ => .no
theorem oIx_ref_eq (n : Nat) (i : Int) (st : Sto) : oIx (.ref n) (.int i) st = oIxR (st.list n) n i st := by
  unfold oIx oIxR ofD
  rfl
@[simp] theorem oIxR_some (ds : List D) (n : Nat) (i : Int) (st : Sto) : oIxR (some ds) n i st = ofD (L2.atI ds i) st := rfl
theorem atI_nat' {α : Type} (ds : List α) {i : Int} (h : 0 ≤ i) (h2 : i < ds.length) : L2.atI ds i = ds[i.toNat]? := by
  unfold L2.atI L2.ixN
  rw [if_pos h, if_pos h2]
  rfl
theorem atI_some {α : Type} {ds : List α} {k : Nat} {a : α} (h : ds[k]? = some a) : L2.atI ds (k : Int) = some a := by
  rw [atI_nat (List.getElem?_eq_some_iff.mp h).1]
  exact h

/-! ### the helpers every law has: its draws -/
def s_draw_a : Stm := (sIf (cAnd (cB (cBin oEq (cBin oIx (cVar 0) (cC (.int 2))) (cC (.int 0)))) (cB (cBin oLt (cBin oIx (cVar 0) (cC (.int 1))) (cCall bLen (cConsA (cBin oIx (cVar 0) (cC (.int 0))) cNilA))))) (sSeq (sAsg (gN 2) (cBin oIx (cBin oIx (cVar 0) (cC (.int 0))) (cBin oIx (cVar 0) (cC (.int 1)))))
  (sSeq (sPut (cVar 0) (cC (.int 1)) (cBin oAdd (cBin oIx (cVar 0) (cC (.int 1))) (cC (.int 1))))
  (sSeq (sIf (cB (cBin oGe (cVar 2) (cBin oPow (cC (.int 10)) (cC (.int 18))))) (sPut (cVar 0) (cC (.int 2)) (cVar 2)) sNx)
  (sPut (cVar 0) (cC (.int 3)) (cBin oMod (cCall bInt (cConsA (cBin oAdd (cBin oAdd (cBin oMul (cBin oIx (cVar 0) (cC (.int 3))) (cC (.int 48271))) (cVar 2)) (cC (.int 13))) cNilA)) (cC (.int 2147483647))))))) sNx)
def s_draw_b : Stm := (sSeq (sIf (cB (cBin oGt (cBin oIx (cVar 0) (cC (.int 2))) (cC (.int 0)))) (sSeq (sAsg (gN 3) (cBin oMod (cCall bInt (cConsA (cBin oIx (cVar 0) (cC (.int 2))) cNilA)) (cVar 1)))
  (sSeq (sPut (cVar 0) (cC (.int 2)) (cBin oDiv (cBin oIx (cVar 0) (cC (.int 2))) (cVar 1)))
  (sRet (cVar 3)))) sNx)
  (sSeq (sPut (cVar 0) (cC (.int 3)) (cBin oMod (cCall bInt (cConsA (cBin oAdd (cBin oMul (cBin oIx (cVar 0) (cC (.int 3))) (cC (.int 69621))) (cC (.int 7))) cNilA)) (cC (.int 2147483629))))
  (sRet (cBin oMod (cCall bInt (cConsA (cBin oDiv (cBin oIx (cVar 0) (cC (.int 3))) (cC (.int 11))) cNilA)) (cVar 1)))))
def d__law_draw : Fn := (fnD 4 2 (sSeq s_draw_a s_draw_b))
def d__law_pick : Fn := (fnD 2 2
  (sRet (cBin oIx (cVar 1) (cCall d__law_draw (cConsA (cVar 0) (cConsA (cCall bLen (cConsA (cVar 1) cNilA)) cNilA))))))
structure Dr (ns : List Int) (st : Sto) : Prop where
  wf : st.wf
  src : st.get 0 = some (.lst (ns.map .int))
  drw : ∃ a b c : Int, 0 ≤ a ∧ 0 ≤ b ∧ st.get 1 = some (.lst [.ref 0, .int a, .int b, .int c])
def dL (a b c : Int) : O := .lst [.ref 0, .int a, .int b, .int c]
theorem put1_int {b n : Nat} {ds : List D} {i : Int} {j : Nat} {e : Int} {st : Sto} (h : st.get n = some (.lst ds)) (hi : L2.ixN ds.length i = some j) : put1 b (.ref n) (.int i) (.int e) st = some (st.put n (.lst (ds.set j (.int e)))) := put1_lst h hi (fits_int _ _ _)
section
variable {ns : List Int} {st : Sto}
theorem Dr.two (h : Dr ns st) : 1 < st.sz := by
  obtain ⟨a, b, c, _, _, h⟩ := h.drw
  exact get_lt h
theorem Dr.put (h : Dr ns st) {a b c : Int} (ha : 0 ≤ a) (hb : 0 ≤ b) : Dr ns (st.put 1 (dL a b c)) where
  wf := wf_put h.wf _ _
  src := by
    rw [get_put h.wf h.two, if_neg (by decide)]
    exact h.src
  drw := ⟨a, b, c, ha, hb, by rw [get_put h.wf h.two, if_pos rfl]; rfl⟩
theorem Dr.push (h : Dr ns st) (o : O) : Dr ns (st.push o) where
  wf := wf_push h.wf _
  src := by
    have := h.two
    rw [get_push, if_neg (by omega)]
    exact h.src
  drw := by
    obtain ⟨a, b, c, ha, hb, q⟩ := h.drw
    have := h.two
    exact ⟨a, b, c, ha, hb, by rw [get_push, if_neg (by omega)]; exact q⟩
theorem Dr.put_ne (h : Dr ns st) {n : Nat} {o : O} (hn : 1 < n) (hs : n < st.sz) : Dr ns (st.put n o) where
  wf := wf_put h.wf _ _
  src := by
    rw [get_put h.wf hs, if_neg (by omega)]
    exact h.src
  drw := by
    obtain ⟨a, b, c, ha, hb, q⟩ := h.drw
    exact ⟨a, b, c, ha, hb, by rw [get_put h.wf hs, if_neg (by omega)]; exact q⟩
theorem Dr.pop (h : Dr ns st) {b : Nat} (hb : 2 ≤ b) (hs : b ≤ st.sz) : Dr ns (st.pop b) where
  wf := wf_pop h.wf hs
  src := by
    rw [get_pop hs (by omega)]
    exact h.src
  drw := by
    obtain ⟨a, b, c, ha, hb, q⟩ := h.drw
    exact ⟨a, b, c, ha, hb, by rw [get_pop hs (by omega)]; exact q⟩
theorem draw_fin {a b c lim : Int} (h : Dr ns st) (hg : st.get 1 = some (dL a b c)) (h1 : 0 < lim) (h2 : lim < 1073741824) (hb : 0 ≤ b) (ha : 0 ≤ a) (e2 e3 : Option D) (k : Nat) (hk : k = st.sz) :
    ∃ v a' b' c', 0 ≤ v ∧ v < lim ∧ 0 ≤ a' ∧ 0 ≤ b' ∧ (s_draw_b k [some (.ref 1), some (.int lim), e2, e3] st).fin k = .ok (.int v) (st.put 1 (dL a' b' c')) := by
  subst hk
  unfold s_draw_b
  have hl : st.list 1 = some [.ref 0, .int a, .int b, .int c] := list_of_get hg
  have hz : Nat.blt lim.natAbs two30 = true := by rw [Nat.blt_eq]; unfold two30; omega
  have hn : lim ≠ 0 := by omega
  have x2 : L2.atI [D.ref 0, .int a, .int b, .int c] 2 = some (.int b) := rfl
  have x3 : ∀ a b c, L2.atI [D.ref 0, .int a, .int b, .int c] 3 = some (.int c) := fun _ _ _ => rfl
  have p2 : ∀ x b', put1 b' (.ref 1) (.int 2) (.int x) st = some (st.put 1 (dL a x c)) := fun x b' => put1_int (j := 2) hg rfl
  have p3 : ∀ x b', put1 b' (.ref 1) (.int 3) (.int x) st = some (st.put 1 (dL a b x)) := fun x b' => put1_int (j := 3) hg rfl
  have g3 : ∀ x, (st.put 1 (dL a b x)).list 1 = some [D.ref 0, .int a, .int b, .int x] := fun x => by
    unfold dL
    rw [list_put h.wf h.two, if_pos rfl]
  by_cases hb0 : 0 < b
  · refine ⟨b.fmod lim, a, b.fdiv lim, c, Int.fmod_nonneg_of_pos _ h1, Int.fmod_lt_of_pos _ h1, ha, Int.fdiv_nonneg hb (by omega), ?_⟩
    simp [oIx_ref_eq, hl, x2, oMod_int, oDiv_int, hn, hz, hb0, p2]
  · refine ⟨(((c * 69621 + 7).fmod 2147483629).fdiv 11).fmod lim, a, b, (c * 69621 + 7).fmod 2147483629, Int.fmod_nonneg_of_pos _ h1, Int.fmod_lt_of_pos _ h1, ha, hb, ?_⟩
    have m1 : ∀ st, oMul (.int c) (.int 69621) st = .ok (.int (c * 69621)) st := fun st => oMul_int _ _ _ (.inr rfl)
    have m2 : ∀ x st, oDiv (.int x) (.int 11) st = .ok (.int (x.fdiv 11)) st := fun x st => oDiv_int _ _ _ (by decide) rfl
    simp [oIx_ref_eq, hl, x2, x3, oMod_int, m1, m2, hn, hb0, p3, g3]
theorem draw_spec (h : Dr ns st) {lim : Int} (h1 : 0 < lim) (h2 : lim < 1073741824) : ∃ v a b c, 0 ≤ v ∧ v < lim ∧ d__law_draw [.ref 1, .int lim] st = .ok (.int v) (st.put 1 (dL a b c)) ∧ Dr ns (st.put 1 (dL a b c)) := by
  obtain ⟨a, b, c, ha, hb, hg⟩ := h.drw
  have hl : st.list 1 = some [.ref 0, .int a, .int b, .int c] := list_of_get hg
  have hl0 : st.list 0 = some (ns.map .int) := list_of_get h.src
  have x0 : ∀ a b c, L2.atI [D.ref 0, .int a, .int b, .int c] 0 = some (.ref 0) := fun _ _ _ => rfl
  have x1 : ∀ a b c, L2.atI [D.ref 0, .int a, .int b, .int c] 1 = some (.int a) := fun _ _ _ => rfl
  have x2 : ∀ a b c, L2.atI [D.ref 0, .int a, .int b, .int c] 2 = some (.int b) := fun _ _ _ => rfl
  have x3 : ∀ a b c, L2.atI [D.ref 0, .int a, .int b, .int c] 3 = some (.int c) := fun _ _ _ => rfl
  have gg : ∀ a b c, (st.put 1 (dL a b c)).get 1 = some (.lst [D.ref 0, .int a, .int b, .int c]) := fun a b c => by
    rw [get_put h.wf h.two, if_pos rfl]
    rfl
  have gl : ∀ a b c, (st.put 1 (dL a b c)).list 1 = some [D.ref 0, .int a, .int b, .int c] := fun a b c => list_of_get (gg a b c)
  have p1 : ∀ x b', put1 b' (.ref 1) (.int 1) (.int x) st = some (st.put 1 (dL x b c)) := fun x b' => put1_int (j := 1) hg rfl
  have p2 : ∀ a b c x b', put1 b' (.ref 1) (.int 2) (.int x) (st.put 1 (dL a b c)) = some (st.put 1 (dL a x c)) := fun a b c x b' => (put1_int (j := 2) (gg a b c) rfl).trans (by rw [put_put_self]; rfl)
  have p3 : ∀ a b c x b', put1 b' (.ref 1) (.int 3) (.int x) (st.put 1 (dL a b c)) = some (st.put 1 (dL a b x)) := fun a b c x b' => (put1_int (j := 3) (gg a b c) rfl).trans (by rw [put_put_self]; rfl)
  have m1 : ∀ st, oMul (.int c) (.int 48271) st = .ok (.int (c * 48271)) st := fun st => oMul_int _ _ _ (.inr rfl)
  have pw : oPow (.int 10) (.int 18) = fun st => .ok (.int 1000000000000000000) st := rfl
  unfold d__law_draw
  by_cases hb0 : b = 0
  · subst hb0
    by_cases hc : a < ns.length
    · have hn : L2.atI (ns.map D.int) a = some (.int (ns[a.toNat]'(by omega))) := by
        rw [atI_nat' _ ha (by rw [List.length_map]; exact hc), List.getElem?_map, List.getElem?_eq_getElem (by omega)]
        rfl
      generalize ns[a.toNat]'(by omega) = n at hn
      by_cases h18 : 1000000000000000000 ≤ n
      · obtain ⟨v, a', b', c', q1, q2, q3, q4, q5⟩ := draw_fin (h.put (a := a + 1) (b := n) (c := (c * 48271 + n + 13).fmod 2147483647) (by omega) (by omega)) (gg _ _ _) h1 h2 (by omega) (by omega) (some (.int n)) none st.sz rfl
        rw [put_put_self] at q5
        refine ⟨v, a', b', c', q1, q2, fnD_to rfl rfl ?_, h.put q3 q4⟩
        unfold s_draw_a
        simp [oIx_ref_eq, hl, hl0, x0, x1, x2, x3, hc, hn, bLen_ref (h := hl0), p1, p2, p3, pw, h18, gl, m1, oMod_int]
        exact q5
      · obtain ⟨v, a', b', c', q1, q2, q3, q4, q5⟩ := draw_fin (h.put (a := a + 1) (b := 0) (c := (c * 48271 + n + 13).fmod 2147483647) (by omega) (by omega)) (gg _ _ _) h1 h2 (by omega) (by omega) (some (.int n)) none st.sz rfl
        rw [put_put_self] at q5
        refine ⟨v, a', b', c', q1, q2, fnD_to rfl rfl ?_, h.put q3 q4⟩
        unfold s_draw_a
        simp [oIx_ref_eq, hl, hl0, x0, x1, x2, x3, hc, hn, bLen_ref (h := hl0), p1, p2, p3, pw, h18, gl, m1, oMod_int]
        exact q5
    · obtain ⟨v, a', b', c', q1, q2, q3, q4, q5⟩ := draw_fin h hg h1 h2 (Int.le_refl 0) ha none none st.sz rfl
      refine ⟨v, a', b', c', q1, q2, fnD_to rfl rfl ?_, h.put q3 q4⟩
      unfold s_draw_a
      simp [oIx_ref_eq, hl, hl0, x0, x1, x2, x3, hc, bLen_ref (h := hl0)]
      exact q5
  · obtain ⟨v, a', b', c', q1, q2, q3, q4, q5⟩ := draw_fin h hg h1 h2 hb ha none none st.sz rfl
    refine ⟨v, a', b', c', q1, q2, fnD_to rfl rfl ?_, h.put q3 q4⟩
    unfold s_draw_a
    simp [oIx_ref_eq, hl, hl0, x0, x1, x2, x3, hb0]
    exact q5
end
end DL
namespace DL
open PySem PySem.Spec PyProof.Rows L2 L2H
/-- what a draw does, told in one piece -/
structure Drawn (ns : List Int) (st : Sto) (lim v : Int) (st' : Sto) : Prop where
  lo : 0 ≤ v
  hi : v < lim
  dr : Dr ns st'
  sz : st'.sz = st.sz
  ne : ∀ n, n ≠ 1 → st'.get n = st.get n
theorem draw_ok {ns : List Int} {st : Sto} (h : Dr ns st) {lim : Int} (h1 : 0 < lim) (h2 : lim < 1073741824) : ∃ v st', Drawn ns st lim v st' ∧ d__law_draw [.ref 1, .int lim] st = .ok (.int v) st' := by
  obtain ⟨v, a, b, c, q1, q2, q3, q4⟩ := draw_spec h h1 h2
  exact ⟨v, _, ⟨q1, q2, q4, rfl, fun n hn => get_put_ne hn h.two⟩, q3⟩
theorem Drawn.list {ns : List Int} {st st' : Sto} {lim v : Int} (h : Drawn ns st lim v st') {n : Nat} (hn : n ≠ 1) : st'.list n = st.list n := by
  unfold Sto.list
  rw [h.ne n hn]
theorem pick_ok {ns : List Int} {st : Sto} (h : Dr ns st) {d : D} {ds : List D} (hn : ds ≠ []) (hl : ds.length < 1073741824) (hd : (∃ n, d = .ref n ∧ 1 < n ∧ st.list n = some ds) ∨ d = .tup ds) :
    ∃ x st' i, Drawn ns st ds.length i st' ∧ ds[i.toNat]? = some x ∧ d__law_pick [.ref 1, d] st = .ok (gc st.sz x st').1 (gc st.sz x st').2 := by
  have hp : 0 < ds.length := List.length_pos_iff.mpr hn
  obtain ⟨v, st', q, e⟩ := draw_ok h (lim := ds.length) (by omega) (by omega)
  have h1 := q.lo
  have h2 := q.hi
  have ht : v.toNat < ds.length := by omega
  have ha : L2.atI ds v = some ds[v.toNat] := by
    rw [atI_nat' _ h1 h2, List.getElem?_eq_getElem ht]
  refine ⟨ds[v.toNat], st', v, q, List.getElem?_eq_getElem ht, fnD_to rfl rfl ?_⟩
  rcases hd with ⟨n, rfl, hn1, hl1⟩ | rfl
  · have hl2 : st'.list n = some ds := by rw [q.list (by omega)]; exact hl1
    have hb : bLen [.ref n] st = .ok (.int ds.length) st := bLen_ref _ hl1
    simp [oIx_ref_eq, hb, e, hl2, ha]
  · simp [e, ha]
end DL
end S_PLf
section S_PLg
set_option Elab.async false
set_option linter.all false
set_option maxRecDepth 100000
set_option autoImplicit false
namespace DL
open PySem PySem.Spec PyProof.Rows L2 L2H
/-! ### the law's comparing -/
section
variable (t : Ty) (st : Sto)
@[simp] theorem bIsi_int (i : Int) : bIsi t [.int i] st = .ok (.bl (match t with | .int => true | _ => false)) st := rfl
@[simp] theorem bIsi_str (i : Str) : bIsi t [.str i] st = .ok (.bl (match t with | .str => true | _ => false)) st := rfl
@[simp] theorem bIsi_bl (i : Bool) : bIsi t [.bl i] st = .ok (.bl (match t with | .int => true | .bool => true | _ => false)) st := rfl
@[simp] theorem bIsi_tup (ds : List D) : bIsi t [.tup ds] st = .ok (.bl (match t with | .tup => true | _ => false)) st := rfl
@[simp] theorem bIsi_non : bIsi t [.non] st = .ok (.bl false) st := rfl
theorem bIsi_ref {n : Nat} {ds : List D} (h : st.list n = some ds) : bIsi t [.ref n] st = .ok (.bl (match t with | .lst => true | _ => false)) st := by
  unfold bIsi isTy
  simp only [h]
  try rfl
@[simp] theorem oIsN_non (d : D) : oIsN d .non st = .ok (.bl d.isN) st := rfl
@[simp] theorem oNotN_non (d : D) : oNotN d .non st = .ok (.bl (!d.isN)) st := rfl
@[simp] theorem isN_int (i : Int) : D.isN (.int i) = false := rfl
@[simp] theorem isN_bl (i : Bool) : D.isN (.bl i) = false := rfl
@[simp] theorem isN_str (i : Str) : D.isN (.str i) = false := rfl
@[simp] theorem isN_tup (i : List D) : D.isN (.tup i) = false := rfl
@[simp] theorem isN_ref (i : Nat) : D.isN (.ref i) = false := rfl
@[simp] theorem isN_non : D.isN .non = true := rfl
end
def d__law_draws : Fn := (fnD 1 1
  (sRet (cLst (cConsA (cCall bList (cConsA (cVar 0) cNilA)) (cConsA (cC (.int 0)) (cConsA (cC (.int 0)) (cConsA (cC (.int 1)) cNilA)))))))
def cl__law_same_1 (F : Fn) : Ex := (cLc (wRange1 (cConsA (cCall bLen (cConsA (cVar 1) cNilA)) cNilA)) (gN 2) (cNot (cB (cCall F (cConsA (cBin oIx (cVar 0) (cVar 2)) (cConsA (cBin oIx (cVar 1) (cVar 2)) cNilA))))) (cVar 2) [2])
def d__law_same : Nat → Fn
  | 0 => fun _ _ => .no
  | k + 1 => (fnD 3 2
  (sSeq (sIf (cOr (cB (cCall (bIsi .tup) (cConsA (cVar 1) cNilA))) (cB (cCall (bIsi .lst) (cConsA (cVar 1) cNilA)))) (sSeq (sIf (cOr (cB (cBin oNe (cCall (bIsi .tup) (cConsA (cVar 0) cNilA)) (cCall (bIsi .tup) (cConsA (cVar 1) cNilA)))) (cB (cBin oNe (cCall (bIsi .lst) (cConsA (cVar 0) cNilA)) (cCall (bIsi .lst) (cConsA (cVar 1) cNilA))))) (sRet (cC (.bl false))) sNx)
  (sSeq (sIf (cB (cBin oNe (cCall bLen (cConsA (cVar 0) cNilA)) (cCall bLen (cConsA (cVar 1) cNilA)))) (sRet (cC (.bl false))) sNx)
  (sRet (cBin oEq (cCall bLen (cConsA (cl__law_same_1 (d__law_same k)) cNilA)) (cC (.int 0)))))) sNx)
  (sSeq (sIf (cOr (cB (cCall (bIsi .bool) (cConsA (cVar 1) cNilA))) (cB (cCall (bIsi .bool) (cConsA (cVar 0) cNilA)))) (sRet (cAndV (cCall (bIsi .bool) (cConsA (cVar 1) cNilA)) (cAndV (cCall (bIsi .bool) (cConsA (cVar 0) cNilA)) (cBin oEq (cVar 0) (cVar 1))))) sNx)
  (sSeq (sIf (cOr (cB (cBin oIsN (cVar 1) (cC .non))) (cB (cBin oIsN (cVar 0) (cC .non)))) (sRet (cAndV (cBin oIsN (cVar 1) (cC .non)) (cBin oIsN (cVar 0) (cC .non)))) sNx)
  (sSeq (sIf (cOr (cB (cCall (bIsi .str) (cConsA (cVar 1) cNilA))) (cB (cCall (bIsi .str) (cConsA (cVar 0) cNilA)))) (sRet (cAndV (cCall (bIsi .str) (cConsA (cVar 1) cNilA)) (cAndV (cCall (bIsi .str) (cConsA (cVar 0) cNilA)) (cBin oEq (cVar 0) (cVar 1))))) sNx)
  (sRet (cAndV (cCall (bIsi .int) (cConsA (cVar 0) cNilA)) (cAndV (cCall (bIsi .int) (cConsA (cVar 1) cNilA)) (cBin oEq (cVar 0) (cVar 1))))))))))
def dH__law_same : Fn := (fnD 3 2
  (sSeq (sIf (cOr (cB (cCall (bIsi .tup) (cConsA (cVar 1) cNilA))) (cB (cCall (bIsi .lst) (cConsA (cVar 1) cNilA)))) (fun _ _ _ => .no) sNx)
  (sSeq (sIf (cOr (cB (cCall (bIsi .bool) (cConsA (cVar 1) cNilA))) (cB (cCall (bIsi .bool) (cConsA (cVar 0) cNilA)))) (fun _ _ _ => .no) sNx)
  (sSeq (sIf (cOr (cB (cBin oIsN (cVar 1) (cC .non))) (cB (cBin oIsN (cVar 0) (cC .non)))) (fun _ _ _ => .no) sNx)
  (sSeq (sIf (cOr (cB (cCall (bIsi .str) (cConsA (cVar 1) cNilA))) (cB (cCall (bIsi .str) (cConsA (cVar 0) cNilA)))) (sRet (cAndV (cCall (bIsi .str) (cConsA (cVar 1) cNilA)) (cAndV (cCall (bIsi .str) (cConsA (cVar 0) cNilA)) (cBin oEqS (cVar 0) (cVar 1))))) sNx)
  (fun _ _ _ => .no))))))
theorem dH_same (a b : Str) (st : Sto) : dH__law_same [.str a, .str b] st = .ok (.bl (a == b)) st := by
  have e : dH__law_same [.str a, .str b] st = (match gc st.sz (.bl (a == b)) st with
    | (d', s') => Rs.ok d' s') := rfl
  rw [e]
  unfold gc
  rw [if_pos (by simp)]


theorem same_int (k : Nat) (a b : Int) (st : Sto) : d__law_same (k + 1) [.int a, .int b] st = .ok (.bl (a == b)) st := by
  unfold d__law_same
  refine fnD_to rfl rfl ?_
  simp
theorem same_bl (k : Nat) (a b : Bool) (st : Sto) : d__law_same (k + 1) [.bl a, .bl b] st = .ok (.bl (a == b)) st := by
  unfold d__law_same
  refine fnD_to rfl rfl ?_
  simp
end DL
end S_PLg
section S_K62d
set_option Elab.async false
set_option linter.all false
set_option maxRecDepth 100000
set_option autoImplicit false
namespace DL
open PySem PySem.Spec PyProof.Rows L2 L2H
def d_handed : Fn := (fnD 4 3
  (sSeq (sAsg (gN 3) (cBin oSub (cUn oNeg (cVar 0)) (cVar 2)))
  (sSeq (sIf (cAnd (cB (cBin oLt (cVar 0) (cC (.int 3)))) (cB (cBin oEq (cVar 1) (cC (.int 2))))) (sRet (cVar 3)) sNx)
  (sRet (cCall bMin (cConsA (cVar 3) (cConsA (cBin oAdd (cBin oAdd (cUn oNeg (cBin oSub (cVar 0) (cVar 1))) (cVar 1)) (cVar 2)) cNilA)))))))
def lb_open_best_1 (F : Fn) : Stm := (sSeq (sAsg (gN 7) (cCall F (cConsA (cBin oAdd (cSl (cVar 0) pNo (pSo (cVar 5))) (cSl (cVar 0) (pSo (cBin oAdd (cVar 5) (cC (.int 1)))) pNo)) (cConsA (cVar 1) (cConsA (cVar 2) cNilA)))))
  (sDrop (cMt .lst mAppend (cVar 4) (cConsA (cCall d_handed (cConsA (cVar 6) (cConsA (cC (.int 2)) (cConsA (cVar 7) cNilA)))) cNilA))))
def lp_open_best_1 (F : Fn) : Stm := (sFor (wEnum (cConsA (cVar 0) cNilA)) (gT [(gN 5), (gN 6)]) (lb_open_best_1 F))
def lb_open_best_2 (F : Fn) : Stm := (sSeq (sAsg (gN 7) (cCall F (cConsA (cVar 0) (cConsA (cBin oAdd (cSl (cVar 1) pNo (pSo (cVar 5))) (cSl (cVar 1) (pSo (cBin oAdd (cVar 5) (cC (.int 1)))) pNo)) (cConsA (cVar 2) cNilA)))))
  (sDrop (cMt .lst mAppend (cVar 4) (cConsA (cCall d_handed (cConsA (cVar 6) (cConsA (cC (.int 4)) (cConsA (cVar 7) cNilA)))) cNilA))))
def lp_open_best_2 (F : Fn) : Stm := (sFor (wEnum (cConsA (cVar 1) cNilA)) (gT [(gN 5), (gN 6)]) (lb_open_best_2 F))
def d_open_best : Nat → Fn
  | 0 => fun _ _ => .no
  | k + 1 => (fnD 8 3
  (sSeq (sAsg (gN 3) (cTup (cConsA (cVar 0) (cConsA (cVar 1) cNilA))))
  (sSeq (sIf (cB (cBin oNotIn (cVar 3) (cVar 2))) (sSeq (sAsg (gN 4) (cLst cNilA))
  (sSeq (lp_open_best_1 (d_open_best k))
  (sSeq (lp_open_best_2 (d_open_best k))
  (sPut (cVar 2) (cVar 3) (cIf (cB (cBin oGt (cCall bLen (cConsA (cVar 4) cNilA)) (cC (.int 0)))) (cCall bMax (cConsA (cVar 4) cNilA)) (cC (.int 0))))))) sNx)
  (sRet (cBin oIx (cVar 2) (cVar 3))))))
def cl_boxes_best_1 : Ex := (cLc (wSeq (cVar 1)) (gN 2) tYesT (cOrV (cBin oLt (cVar 2) (cC (.int 4))) (cBin oEq (cBin oMod (cVar 2) (cC (.int 2))) (cC (.int 1)))) [2])
def cl_boxes_best_2 : Ex := (cLc (wSeq (cVar 0)) (gN 2) tYesT (cBin oLt (cVar 2) (cC (.int 1))) [2])
def d_boxes_best : Fn := (fnD 3 2
  (sSeq (sIf (cOr (cB (cCall bAny (cConsA cl_boxes_best_2 cNilA))) (cB (cCall bAny (cConsA cl_boxes_best_1 cNilA)))) (sRaise 1 (cC (.str ("boxes" : PySem.Str)))) sNx)
  (sRet (cCall (d_open_best 40) (cConsA (cCall bTuple (cConsA (cCall bSorted (cConsA (cVar 0) cNilA)) cNilA)) (cConsA (cCall bTuple (cConsA (cCall bSorted (cConsA (cVar 1) cNilA)) cNilA)) (cConsA cDg0 cNilA)))))))
def lb__law_best_1 (F : Fn) : Stm := (sSeq (sAsg (gN 6) (cCall F (cConsA (cBin oAdd (cSl (cVar 0) pNo (pSo (cVar 5))) (cSl (cVar 0) (pSo (cBin oAdd (cVar 5) (cC (.int 1)))) pNo)) (cConsA (cVar 1) (cConsA (cVar 2) cNilA)))))
  (sSeq (sAsg (gN 7) (cBin oAdd (cLst (cConsA (cBin oSub (cUn oNeg (cBin oIx (cVar 0) (cVar 5))) (cVar 6)) cNilA)) (cIf (cB (cBin oGt (cBin oIx (cVar 0) (cVar 5)) (cC (.int 2)))) (cLst (cConsA (cBin oAdd (cBin oAdd (cUn oNeg (cBin oSub (cBin oIx (cVar 0) (cVar 5)) (cC (.int 2)))) (cC (.int 2))) (cVar 6)) cNilA)) (cLst cNilA))))
  (sDrop (cMt .lst mAppend (cVar 4) (cConsA (cCall bMin (cConsA (cVar 7) cNilA)) cNilA)))))
def lp__law_best_1 (F : Fn) : Stm := (sFor (wRange1 (cConsA (cCall bLen (cConsA (cVar 0) cNilA)) cNilA)) (gN 5) (lb__law_best_1 F))
def lb__law_best_2 (F : Fn) : Stm := (sSeq (sAsg (gN 6) (cCall F (cConsA (cVar 0) (cConsA (cBin oAdd (cSl (cVar 1) pNo (pSo (cVar 5))) (cSl (cVar 1) (pSo (cBin oAdd (cVar 5) (cC (.int 1)))) pNo)) (cConsA (cVar 2) cNilA)))))
  (sDrop (cMt .lst mAppend (cVar 4) (cConsA (cCall bMin (cConsA (cBin oSub (cUn oNeg (cBin oIx (cVar 1) (cVar 5))) (cVar 6)) (cConsA (cBin oAdd (cBin oAdd (cUn oNeg (cBin oSub (cBin oIx (cVar 1) (cVar 5)) (cC (.int 4)))) (cC (.int 4))) (cVar 6)) cNilA))) cNilA))))
def lp__law_best_2 (F : Fn) : Stm := (sFor (wRange1 (cConsA (cCall bLen (cConsA (cVar 1) cNilA)) cNilA)) (gN 5) (lb__law_best_2 F))
def d__law_best : Nat → Fn
  | 0 => fun _ _ => .no
  | k + 1 => (fnD 8 3
  (sSeq (sAsg (gN 3) (cTup (cConsA (cCall bTuple (cConsA (cCall bSorted (cConsA (cVar 0) cNilA)) cNilA)) (cConsA (cCall bTuple (cConsA (cCall bSorted (cConsA (cVar 1) cNilA)) cNilA)) cNilA))))
  (sSeq (sIf (cB (cBin oNotIn (cVar 3) (cVar 2))) (sSeq (sAsg (gN 4) (cLst cNilA))
  (sSeq (lp__law_best_1 (d__law_best k))
  (sSeq (lp__law_best_2 (d__law_best k))
  (sPut (cVar 2) (cVar 3) (cIf (cB (cBin oGt (cCall bLen (cConsA (cVar 4) cNilA)) (cC (.int 0)))) (cCall bMax (cConsA (cVar 4) cNilA)) (cC (.int 0))))))) sNx)
  (sRet (cBin oIx (cVar 2) (cVar 3))))))
def cl_law_1 : Ex := (cLc (wRange1 (cConsA (cCall d__law_draw (cConsA (cVar 1) (cConsA (cC (.int 5)) cNilA))) cNilA)) (gN 7) tYesT (cBin oAdd (cC (.int 1)) (cCall d__law_draw (cConsA (cVar 1) (cConsA (cC (.int 7)) cNilA)))) [7])
def ls_law_1 : Stm := (sAsg (gN 2) (cCall bTuple (cConsA cl_law_1 cNilA)))
def cl_law_2 : Ex := (cLc (wRange1 (cConsA (cCall d__law_draw (cConsA (cVar 1) (cConsA (cC (.int 3)) cNilA))) cNilA)) (gN 7) tYesT (cBin oAdd (cC (.int 4)) (cBin oMul (cC (.int 2)) (cCall d__law_draw (cConsA (cVar 1) (cConsA (cC (.int 3)) cNilA))))) [7])
def ls_law_2 : Stm := (sAsg (gN 3) (cCall bTuple (cConsA cl_law_2 cNilA)))
def ls_law_3 : Stm := (sAsg (gN 4) (cCall (d__law_best 40) (cConsA (cVar 2) (cConsA (cVar 3) (cConsA cDg0 cNilA)))))
def ls_law_4 : Stm := (sIf (cOr (cNot (cB (cCall (d__law_same 40) (cConsA (cCall d_boxes_best (cConsA (cVar 2) (cConsA (cVar 3) cNilA))) (cConsA (cVar 4) cNilA))))) (cB (cBin oNe (cCall d_boxes_best (cConsA (cUn oRev (cVar 2)) (cConsA (cUn oRev (cVar 3)) cNilA))) (cVar 4)))) (sRet (cC (.bl false))) sNx)
def ls_law_5 : Stm := (sAsg (gN 5) (cCall d__law_pick (cConsA (cVar 1) (cConsA (cLst (cConsA (cTup (cConsA (cTup (cConsA (cC (.int 0)) cNilA)) (cConsA (cTup cNilA) cNilA))) (cConsA (cTup (cConsA (cTup cNilA) (cConsA (cTup (cConsA (cC (.int 5)) cNilA)) cNilA))) (cConsA (cTup (cConsA (cTup cNilA) (cConsA (cTup (cConsA (cC (.int 2)) cNilA)) cNilA))) cNilA)))) cNilA))))
def ls_law_6 : Stm := (sTryB [1] 6 (sRet (cBin oEq (cCall d_boxes_best (cConsA (cBin oIx (cVar 5) (cC (.int 0))) (cConsA (cBin oIx (cVar 5) (cC (.int 1))) cNilA))) (cC (.str ("refused" : PySem.Str))))) ("boxes" : PySem.Str))
def lawS : Stm := (sSeq ls_law_1
  (sSeq ls_law_2
  (sSeq ls_law_3
  (sSeq ls_law_4
  (sSeq ls_law_5
  ls_law_6)))))
end DL
end S_K62d
section S_K62m
set_option Elab.async false
set_option linter.all false
set_option maxRecDepth 100000
set_option autoImplicit false
namespace DL
open PySem PySem.Spec PyProof.Rows L2 L2H

def handed (size lo rest : Int) : Int := if size < 3 ∧ lo = 2 then -size - rest else min (-size - rest) (-(size - lo) + lo + rest)
theorem handed_spec (a b c : Int) (st : Sto) : d_handed [.int a, .int b, .int c] st = .ok (.int (handed a b c)) st := by
  unfold d_handed
  refine fnD_to rfl rfl ?_
  simp
  unfold handed
  by_cases h1 : a < 3 <;> by_cases h2 : b = 2 <;> simp [h1, h2]
def maxL : List Int → Int
  | [] => 0
  | i :: r => maxI i r
def dI (l : List Int) : List D := l.map D.int
theorem dI_len (l : List Int) : (dI l).length = l.length := List.length_map _
theorem dI_app (l r : List Int) : dI (l ++ r) = dI l ++ dI r := List.map_append
theorem dI_one (i : Int) : dI [i] = [.int i] := rfl
theorem dI_get (l : List Int) (i : Nat) : (dI l)[i]? = l[i]?.map D.int := List.getElem?_map
def best : Nat → List Int → List Int → Int
  | 0, _, _ => 0
  | n + 1, ss, rs => maxL ((List.range ss.length).map (fun k => handed (ss.getD k 0) 2 (best n (ss.eraseIdx k) rs)) ++ (List.range rs.length).map (fun k => handed (rs.getD k 0) 4 (best n ss (rs.eraseIdx k))))
def cnt : Nat → Nat
  | 0 => 1
  | n + 1 => 1 + (n + 1) * cnt n
def Memo (G : List Int → List Int → Int) (kvs : List (List D × D)) : Prop := ∀ ks v, gget ks kvs = some v → ∃ ss rs, ks = [.tup (dI ss), .tup (dI rs)] ∧ v = .int (G ss rs)
def bestN (ss rs : List Int) : Int := best (ss.length + rs.length) ss rs
theorem ints_inj {a b : List Int} (h : dI a = dI b) : a = b := by
  induction a generalizing b with
  | nil => cases b with
    | nil => rfl
    | cons _ _ => cases h
  | cons x a ih => cases b with
    | nil => cases h
    | cons y b =>
      have h : D.int x :: dI a = D.int y :: dI b := h
      simp only [List.cons.injEq, D.int.injEq] at h
      rw [h.1, ih h.2]
theorem key_gks (ss rs : List Int) : D.gks 7 [.tup (dI ss), .tup (dI rs)] = true := by
  show (D.gks 6 (dI ss) && (D.gks 6 (dI rs) && true)) = true
  unfold dI
  rw [gks_ints, gks_ints]
  rfl
theorem Memo.at {G : List Int → List Int → Int} {kvs : List (List D × D)} (h : Memo G kvs) {ss rs : List Int} {v : D} (e : gget [.tup (dI ss), .tup (dI rs)] kvs = some v) : v = .int (G ss rs) := by
  obtain ⟨a, b, q1, q2⟩ := h _ _ e
  simp only [List.cons.injEq, D.tup.injEq, and_true] at q1
  rw [q2, ints_inj q1.1, ints_inj q1.2]
theorem Memo.set {G : List Int → List Int → Int} {kvs : List (List D × D)} (h : Memo G kvs) (ss rs : List Int) : Memo G (gset [.tup (dI ss), .tup (dI rs)] (.int (G ss rs)) kvs) := by
  intro ks v e
  rw [gget_gset] at e
  split at e
  · rename_i q
    exact ⟨ss, rs, q, (Option.some.inj e).symm⟩
  · exact h ks v e
theorem cut_erase {ss : List Int} {i : Nat} (h : i < ss.length) : cutD (dI ss) none (some (i : Int)) ++ cutD (dI ss) (some ((i : Int) + 1)) none = dI (ss.eraseIdx i) := by
  rw [cut_take _ (by rw [dI_len]; omega), show ((i : Int) + 1) = ((i + 1 : Nat) : Int) by omega, cut_drop _ (by rw [dI_len]; omega), List.eraseIdx_eq_take_drop_succ]
  simp only [dI, List.map_append, List.map_take, List.map_drop]
theorem pp1 (s : Sto) (n : Nat) (o u : O) : ((s.put n o).push u).pop (s.sz + 1) = (s.put n o).push u := pop_sz rfl
theorem get_m {s : Sto} {m : Nat} {o x u : O} (h : s.get m = some x) : ((s.put m o).push u).get m = some o := by
  have := get_lt h
  rw [get_push, if_neg (by rw [sz_put]; omega), get_put_self h]
theorem put_m {s : Sto} {m : Nat} {o x u o2 : O} (h : s.get m = some x) : ((s.put m o).push u).put m o2 = (s.put m o2).push u := by
  rw [put_push (by rw [sz_put]; exact get_lt h), put_put_self]
theorem get_w {s : Sto} {m : Nat} {o u : O} : ((s.put m o).push u).get s.sz = some u := get_push_self _ _
theorem put_w {s : Sto} {m : Nat} {o u u2 : O} : ((s.put m o).push u).put s.sz u2 = (s.put m o).push u2 := put_push_self _ _ _
/-- what a def that keeps a memo does -/
def Does (G : List Int → List Int → Int) (F : Fn) (n : Nat) : Prop := ∀ (ss rs : List Int) (st : Sto) (m : Nat) (kvs : List (List D × D)), ss.length + rs.length = n → st.get m = some (.dg kvs) → Memo G kvs → kvs.length + cnt n < 1000000 →
  ∃ kvs', F [.tup (dI ss), .tup (dI rs), .ref m] st = .ok (.int (G ss rs)) (st.put m (.dg kvs')) ∧ Memo G kvs' ∧ kvs'.length ≤ kvs.length + cnt n
def PreL (G : List Int → List Int → Int) (ss rs : List Int) (c : Nat) (st : Sto) (m : Nat) (kvs0 : List (List D × D)) (ws : List Int) (e : Env) (s : Sto) : Prop := ∃ o5 o6 o7 kvs, e = [some (.tup (dI ss)), some (.tup (dI rs)), some (.ref m), some (.tup [.tup (dI ss), .tup (dI rs)]), some (.ref st.sz), o5, o6, o7] ∧
  s = (st.put m (.dg kvs)).push (.lst (dI ws)) ∧ Memo G kvs ∧ kvs.length ≤ kvs0.length + c
theorem ob_l1 {F : Fn} {n b : Nat} {st : Sto} {m : Nat} {kvs0 : List (List D × D)} {ss rs : List Int} (hF : Does bestN F n) (hn : ss.length + rs.length = n + 1) (hm : st.get m = some (.dg kvs0)) (hk : kvs0.length + cnt (n + 1) < 1000000) (hb : b ≤ st.sz) (hs : ss.length < 1000)
    {env : Env} {s : Sto} (h : PreL bestN ss rs 0 st m kvs0 [] env s) :
    ∃ e2 s2, lp_open_best_1 F b env s = .nx e2 s2 ∧ PreL bestN ss rs (ss.length * cnt n) st m kvs0 ((List.range ss.length).map fun k => handed (ss.getD k 0) 2 (bestN (ss.eraseIdx k) rs)) e2 s2 := by
  have hw : (wEnum (cConsA (cVar 0) cNilA)) b env s = .ok (.sn (enumD 0 (dI ss))) s := by
    obtain ⟨o5, o6, o7, kvs, rfl, _⟩ := h
    rw [wEnum_eq]
    simp
  unfold lp_open_best_1
  rw [sFor_sn hw]
  have := forS_inv (t := gT [gN 5, gN 6]) (f := lb_open_best_1 F) (b := b) (fun i e s => i ≤ ss.length → PreL bestN ss rs (i * cnt n) st m kvs0 ((List.range i).map fun k => handed (ss.getD k 0) 2 (bestN (ss.eraseIdx k) rs)) e s) (ds := enumD 0 (dI ss)) (k := 0) (env := env) (st := s) (fun _ => by simpa using h) (by
    intro i d e s hd hp
    rw [enumD_get] at hd
    rw [Nat.zero_add] at hp ⊢
    by_cases hi : i < ss.length
    · rw [dI_get, List.getElem?_eq_getElem hi] at hd
      simp only [Option.map_some, Option.some.injEq, Nat.zero_add] at hd
      subst hd
      obtain ⟨o5, o6, o7, kvs, rfl, rfl, hM, hL⟩ := hp (by omega)
      have hc : (i + 1) * cnt n ≤ (n + 1) * cnt n := Nat.mul_le_mul_right _ (by omega)
      have hc2 : (i + 1) * cnt n = i * cnt n + cnt n := by rw [Nat.add_mul, Nat.one_mul]
      have hc3 : cnt (n + 1) = 1 + (n + 1) * cnt n := rfl
      obtain ⟨kvs', e1, M1, L1⟩ := hF (ss.eraseIdx i) rs ((st.put m (.dg kvs)).push (.lst (dI ((List.range i).map fun k => handed (ss.getD k 0) 2 (bestN (ss.eraseIdx k) rs))))) m kvs (by rw [List.length_eraseIdx_of_lt hi]; omega) (get_m hm) hM (by omega)
      rw [put_m hm] at e1
      refine ⟨_, rfl, [some (.tup (dI ss)), some (.tup (dI rs)), some (.ref m), some (.tup [.tup (dI ss), .tup (dI rs)]), some (.ref st.sz), some (.int i), some (.int ss[i]), some (.int (bestN (ss.eraseIdx i) rs))],
        (st.put m (.dg kvs')).push (.lst (dI ((List.range (i + 1)).map fun k => handed (ss.getD k 0) 2 (bestN (ss.eraseIdx k) rs)))), ?_, fun _ => ⟨some (.int i), some (.int ss[i]), some (.int (bestN (ss.eraseIdx i) rs)), kvs', rfl, rfl, M1, by omega⟩⟩
      unfold lb_open_best_1
      have hsl : ∀ st, oAdd (.tup (cutD (dI ss) none (some (i : Int)))) (.tup (cutD (dI ss) (some ((i : Int) + 1)) none)) st = .ok (.tup (dI (ss.eraseIdx i))) st := fun st => by
        rw [oAdd_tup, cut_erase hi]
        rw [← List.length_append, cut_erase hi, dI_len, List.length_eraseIdx_of_lt hi]
        show _ ≤ 1000000
        omega
      have ha : ∀ kvs ws (x : Int), ws.length < 1000 → mAppend b (.ref st.sz) [.int x] ((st.put m (.dg kvs)).push (.lst (dI ws))) = .ok .non ((st.put m (.dg kvs)).push (.lst (dI (ws ++ [x])))) := fun kvs ws x hx => by
        rw [mAppend_of get_w (by rw [dI_len]; omega) (fits_int _ _ _), put_w, dI_app, dI_one]
      have hr : ∀ kvs ws, isRv .lst (.ref st.sz) ((st.put m (.dg kvs)).push (.lst (dI ws))) = true := fun kvs ws => isRv_lst (list_of_get get_w)
      have hsl1 : ∀ st, oSl none (some (i : Int)) (.tup (dI ss)) st = .ok (.tup (cutD (dI ss) none (some (i : Int)))) st := fun _ => rfl
      have hsl2 : ∀ st, oSl (some ((i : Int) + 1)) none (.tup (dI ss)) st = .ok (.tup (cutD (dI ss) (some ((i : Int) + 1)) none)) st := fun _ => rfl
      rw [List.range_succ, List.map_append, List.map_cons, List.map_nil, show ss.getD i 0 = ss[i] by rw [List.getD_eq_getElem?_getD, List.getElem?_eq_getElem hi]; rfl]
      have hwl : ((List.range i).map fun k => handed (ss.getD k 0) 2 (bestN (ss.eraseIdx k) rs)).length < 1000 := by
        rw [List.length_map, List.length_range]
        omega
      generalize ((List.range i).map fun k => handed (ss.getD k 0) 2 (bestN (ss.eraseIdx k) rs)) = ws at e1 hwl ⊢
      simp [hwl, hsl1, hsl2, hsl, e1, handed_spec, pp1, ha, hr]
      done
    · have : (dI ss)[i]? = none := List.getElem?_eq_none (by rw [dI_len]; omega)
      rw [this] at hd
      cases hd)
  rw [Nat.zero_add, enumD_len, dI_len] at this
  obtain ⟨e2, s2, q1, q2⟩ := this
  exact ⟨e2, s2, q1, q2 (Nat.le_refl _)⟩
theorem ob_l2 {F : Fn} {n b : Nat} {st : Sto} {m : Nat} {kvs0 : List (List D × D)} {ss rs : List Int} (hF : Does bestN F n) (hn : ss.length + rs.length = n + 1) (hm : st.get m = some (.dg kvs0)) (hk : kvs0.length + cnt (n + 1) < 1000000) (hb : b ≤ st.sz) (hs : rs.length < 1000) (ws0 : List Int) (hw0 : ws0.length ≤ ss.length) (hs0 : ss.length < 1000)
    {env : Env} {s : Sto} (h : PreL bestN ss rs (ss.length * cnt n) st m kvs0 ws0 env s) :
    ∃ e2 s2, lp_open_best_2 F b env s = .nx e2 s2 ∧ PreL bestN ss rs ((n + 1) * cnt n) st m kvs0 (ws0 ++ (List.range rs.length).map fun k => handed (rs.getD k 0) 4 (bestN ss (rs.eraseIdx k))) e2 s2 := by
  have hw : (wEnum (cConsA (cVar 1) cNilA)) b env s = .ok (.sn (enumD 0 (dI rs))) s := by
    obtain ⟨o5, o6, o7, kvs, rfl, _⟩ := h
    rw [wEnum_eq]
    simp
  unfold lp_open_best_2
  rw [sFor_sn hw]
  have := forS_inv (t := gT [gN 5, gN 6]) (f := lb_open_best_2 F) (b := b) (fun i e s => i ≤ rs.length → PreL bestN ss rs ((ss.length + i) * cnt n) st m kvs0 (ws0 ++ (List.range i).map fun k => handed (rs.getD k 0) 4 (bestN ss (rs.eraseIdx k))) e s) (ds := enumD 0 (dI rs)) (k := 0) (env := env) (st := s) (fun _ => by simpa using h) (by
    intro i d e s hd hp
    rw [enumD_get] at hd
    rw [Nat.zero_add] at hp ⊢
    by_cases hi : i < rs.length
    · rw [dI_get, List.getElem?_eq_getElem hi] at hd
      simp only [Option.map_some, Option.some.injEq, Nat.zero_add] at hd
      subst hd
      obtain ⟨o5, o6, o7, kvs, rfl, rfl, hM, hL⟩ := hp (by omega)
      have hc : (ss.length + (i + 1)) * cnt n ≤ (n + 1) * cnt n := Nat.mul_le_mul_right _ (by omega)
      have hc2 : (ss.length + (i + 1)) * cnt n = (ss.length + i) * cnt n + cnt n := by rw [← Nat.add_assoc, Nat.add_mul _ 1, Nat.one_mul]
      have hc3 : cnt (n + 1) = 1 + (n + 1) * cnt n := rfl
      obtain ⟨kvs', e1, M1, L1⟩ := hF ss (rs.eraseIdx i) ((st.put m (.dg kvs)).push (.lst (dI (ws0 ++ (List.range i).map fun k => handed (rs.getD k 0) 4 (bestN ss (rs.eraseIdx k)))))) m kvs (by rw [List.length_eraseIdx_of_lt hi]; omega) (get_m hm) hM (by omega)
      rw [put_m hm] at e1
      refine ⟨_, rfl, [some (.tup (dI ss)), some (.tup (dI rs)), some (.ref m), some (.tup [.tup (dI ss), .tup (dI rs)]), some (.ref st.sz), some (.int i), some (.int rs[i]), some (.int (bestN ss (rs.eraseIdx i)))],
        (st.put m (.dg kvs')).push (.lst (dI (ws0 ++ (List.range (i + 1)).map fun k => handed (rs.getD k 0) 4 (bestN ss (rs.eraseIdx k))))), ?_, fun _ => ⟨some (.int i), some (.int rs[i]), some (.int (bestN ss (rs.eraseIdx i))), kvs', rfl, rfl, M1, by omega⟩⟩
      unfold lb_open_best_2
      have hsl : ∀ st, oAdd (.tup (cutD (dI rs) none (some (i : Int)))) (.tup (cutD (dI rs) (some ((i : Int) + 1)) none)) st = .ok (.tup (dI (rs.eraseIdx i))) st := fun st => by
        rw [oAdd_tup, cut_erase hi]
        rw [← List.length_append, cut_erase hi, dI_len, List.length_eraseIdx_of_lt hi]
        show _ ≤ 1000000
        omega
      have ha : ∀ kvs ws (x : Int), ws.length < 2000 → mAppend b (.ref st.sz) [.int x] ((st.put m (.dg kvs)).push (.lst (dI ws))) = .ok .non ((st.put m (.dg kvs)).push (.lst (dI (ws ++ [x])))) := fun kvs ws x hx => by
        rw [mAppend_of get_w (by rw [dI_len]; omega) (fits_int _ _ _), put_w, dI_app, dI_one]
      have hr : ∀ kvs ws, isRv .lst (.ref st.sz) ((st.put m (.dg kvs)).push (.lst (dI ws))) = true := fun kvs ws => isRv_lst (list_of_get get_w)
      have hsl1 : ∀ st, oSl none (some (i : Int)) (.tup (dI rs)) st = .ok (.tup (cutD (dI rs) none (some (i : Int)))) st := fun _ => rfl
      have hsl2 : ∀ st, oSl (some ((i : Int) + 1)) none (.tup (dI rs)) st = .ok (.tup (cutD (dI rs) (some ((i : Int) + 1)) none)) st := fun _ => rfl
      rw [List.range_succ, List.map_append, List.map_cons, List.map_nil, ← List.append_assoc, show rs.getD i 0 = rs[i] by rw [List.getD_eq_getElem?_getD, List.getElem?_eq_getElem hi]; rfl]
      have hwl : (ws0 ++ (List.range i).map fun k => handed (rs.getD k 0) 4 (bestN ss (rs.eraseIdx k))).length < 2000 := by
        rw [List.length_append, List.length_map, List.length_range]
        omega
      generalize (ws0 ++ (List.range i).map fun k => handed (rs.getD k 0) 4 (bestN ss (rs.eraseIdx k))) = ws at e1 hwl ⊢
      simp [hwl, hsl1, hsl2, hsl, e1, handed_spec, pp1, ha, hr]
      done
    · have : (dI rs)[i]? = none := List.getElem?_eq_none (by rw [dI_len]; omega)
      rw [this] at hd
      cases hd)
  rw [Nat.zero_add, enumD_len, dI_len] at this
  obtain ⟨e2, s2, q1, q2⟩ := this
  rw [hn] at q2
  exact ⟨e2, s2, q1, q2 (Nat.le_refl _)⟩
theorem gc_new (s : Sto) (ds : List D) (h : D.los s.sz ds = true) : gc s.sz (.ref s.sz) (s.push (.lst ds)) = (.ref s.sz, s.push (.lst ds)) := by
  rw [gc_ref_new (Nat.le_refl _) (get_push_self s _) (show O.lo s.sz (.lst ds) = true from h), pop_push]
def optsN (ss rs : List Int) : List Int := ((List.range ss.length).map fun k => handed (ss.getD k 0) 2 (bestN (ss.eraseIdx k) rs)) ++ (List.range rs.length).map fun k => handed (rs.getD k 0) 4 (bestN ss (rs.eraseIdx k))
theorem bestN_eq (ss rs : List Int) : bestN ss rs = maxL (optsN ss rs) := by
  unfold bestN optsN
  cases e : ss.length + rs.length with
  | zero =>
    have h1 : ss = [] := List.eq_nil_of_length_eq_zero (by omega)
    have h2 : rs = [] := List.eq_nil_of_length_eq_zero (by omega)
    subst h1 h2
    rfl
  | succ n =>
    show maxL _ = _
    congr 2
    · apply List.map_congr_left
      intro k hk
      have hk := List.mem_range.mp hk
      have : (ss.eraseIdx k).length + rs.length = n := by
        rw [List.length_eraseIdx_of_lt hk]
        omega
      show _ = handed _ 2 (best _ _ _)
      rw [this]
    · apply List.map_congr_left
      intro k hk
      have hk := List.mem_range.mp hk
      have : ss.length + (rs.eraseIdx k).length = n := by
        rw [List.length_eraseIdx_of_lt hk]
        omega
      show _ = handed _ 4 (best _ _ _)
      rw [this]
theorem ob_ll {F : Fn} {n b : Nat} {st : Sto} {m : Nat} {kvs0 : List (List D × D)} {ss rs : List Int} (hF : ∀ n', n = n' + 1 → Does bestN F n') (hn : ss.length + rs.length = n) (hm : st.get m = some (.dg kvs0)) (hk : kvs0.length + cnt n < 1000000) (hb : b ≤ st.sz) (hs : n < 500)
    {env : Env} {s : Sto} (h : PreL bestN ss rs 0 st m kvs0 [] env s) :
    ∃ e1 s1 e2 s2, lp_open_best_1 F b env s = .nx e1 s1 ∧ lp_open_best_2 F b e1 s1 = .nx e2 s2 ∧ PreL bestN ss rs (cnt n - 1) st m kvs0 (optsN ss rs) e2 s2 := by
  cases n with
  | zero =>
    have h1 : ss = [] := List.eq_nil_of_length_eq_zero (by omega)
    have h2 : rs = [] := List.eq_nil_of_length_eq_zero (by omega)
    subst h1 h2
    obtain ⟨o5, o6, o7, kvs, rfl, rfl, q⟩ := h
    refine ⟨_, _, _, _, rfl, rfl, o5, o6, o7, kvs, rfl, rfl, q⟩
  | succ n =>
    obtain ⟨e1, s1, a1, p1⟩ := ob_l1 (hF n rfl) hn hm hk hb (by omega) h
    obtain ⟨e2, s2, a2, p2⟩ := ob_l2 (hF n rfl) hn hm hk hb (by omega) _ (by rw [List.length_map, List.length_range]; exact Nat.le_refl _) (by omega) p1
    refine ⟨e1, s1, e2, s2, a1, a2, ?_⟩
    have : cnt (n + 1) - 1 = (n + 1) * cnt n := by
      show 1 + (n + 1) * cnt n - 1 = _
      omega
    rw [this]
    exact p2
theorem ob_spec : ∀ k n, n < k → n < 400 → Does bestN (d_open_best k) n
  | 0, _, h, _ => by omega
  | k + 1, n, hk, hn => by
    intro ss rs st m kvs hl hm hM hc
    have hks := key_gks ss rs
    have hlo : ∀ b, D.los b [D.tup (dI ss), D.tup (dI rs)] = true := fun b => by
      rw [los_cons, los_cons, los_nil, lo_tup, lo_tup]
      unfold dI
      rw [los_ints, los_ints]
      rfl
    have hg : ∀ b s, gc b (.tup [.tup (dI ss), .tup (dI rs)]) s = (.tup [.tup (dI ss), .tup (dI rs)], s.pop b) := fun b s => gc_tup (hlo b)
    cases e : gget [.tup (dI ss), .tup (dI rs)] kvs with
    | some v =>
      have := hM.at e
      subst this
      refine ⟨kvs, ?_, hM, by omega⟩
      rw [put_get hm]
      unfold d_open_best
      refine fnD_to rfl rfl ?_
      simp [oNotIn_dg hm hks, e, oIx_dg hm hks e, hg]
    | none =>
      obtain ⟨e1, s1, e2, s2, a1, a2, o5, o6, o7, kvs', rfl, rfl, M1, L1⟩ := ob_ll (F := d_open_best k) (b := st.sz) (n := n) (kvs0 := kvs) (env := [some (.tup (dI ss)), some (.tup (dI rs)), some (.ref m), some (.tup [.tup (dI ss), .tup (dI rs)]), some (.ref st.sz), none, none, none]) (s := st.push (.lst []))
        (fun n' e => ob_spec k n' (by omega) (by omega)) hl hm hc (Nat.le_refl _) (by omega) ⟨none, none, none, kvs, rfl, by rw [put_get hm]; rfl, hM, Nat.le_refl _⟩
      have hc1 : 1 ≤ cnt n := by cases n <;> simp [cnt] <;> omega
      refine ⟨gset [.tup (dI ss), .tup (dI rs)] (.int (bestN ss rs)) kvs', ?_, M1.set ss rs, by have := gset_len [.tup (dI ss), .tup (dI rs)] (.int (bestN ss rs)) kvs'; omega⟩
      unfold d_open_best
      refine fnD_to rfl rfl ?_
      have hp : ∀ b ws, put1 b (.ref m) (.tup [.tup (dI ss), .tup (dI rs)]) (.int (bestN ss rs)) ((st.put m (.dg kvs')).push (.lst (dI ws))) = some ((st.put m (.dg (gset [.tup (dI ss), .tup (dI rs)] (.int (bestN ss rs)) kvs'))).push (.lst (dI ws))) := fun b ws => by
        rw [put1_dg (get_m hm) hks (by omega) (fits_int _ _ _), put_m hm]
      have hx : ∀ ws, oIx (.ref m) (.tup [.tup (dI ss), .tup (dI rs)]) ((st.put m (.dg (gset [.tup (dI ss), .tup (dI rs)] (.int (bestN ss rs)) kvs'))).push (.lst (dI ws))) = .ok (.int (bestN ss rs)) ((st.put m (.dg (gset [.tup (dI ss), .tup (dI rs)] (.int (bestN ss rs)) kvs'))).push (.lst (dI ws))) := fun ws =>
        oIx_dg (get_m hm) hks (by rw [gget_gset, if_pos rfl])
      have hln : ∀ ws, bLen [.ref st.sz] ((st.put m (.dg kvs')).push (.lst (dI ws))) = .ok (.int ws.length) ((st.put m (.dg kvs')).push (.lst (dI ws))) := fun ws => by
        rw [bLen_ref _ (list_of_get get_w), dI_len]
      have hpop : ∀ o u, ((st.put m o).push u).pop st.sz = st.put m o := fun o u => (pop_push' (Nat.le_refl _)).trans (pop_sz rfl)
      have hnew := gc_new st [] rfl
      have hbst := bestN_eq ss rs
      cases ho : optsN ss rs with
      | nil =>
        rw [ho] at hbst a2
        have hbst : bestN ss rs = 0 := hbst
        rw [hbst] at hp hx ⊢
        simp [oNotIn_dg hm hks, e, hg, hnew, a1, a2, hln, hp, hx, hpop]
      | cons i is =>
        rw [ho] at hbst a2
        have hmx : bMax [.ref st.sz] ((st.put m (.dg kvs')).push (.lst (dI (i :: is)))) = .ok (.int (bestN ss rs)) ((st.put m (.dg kvs')).push (.lst (dI (i :: is)))) := by
          rw [hbst]
          exact bMax_ref _ (i := i) (is := is) (list_of_get get_w)
        simp [oNotIn_dg hm hks, e, hg, hnew, a1, a2, hln, hmx, hp, hx, hpop]
end DL
end S_K62m
section S_K62y
set_option Elab.async false
set_option linter.all false
set_option maxRecDepth 100000
set_option autoImplicit false
namespace DL
open PySem PySem.Spec PyProof.Rows L2 L2H
theorem maxI_ge : ∀ (l : List Int) (m : Int), m ≤ maxI m l ∧ ∀ x ∈ l, x ≤ maxI m l
  | [], m => ⟨Int.le_refl _, fun _ h => nomatch h⟩
  | i :: r, m => by
    unfold maxI
    obtain ⟨h1, h2⟩ := maxI_ge r (if m < i then i else m)
    refine ⟨?_, fun x hx => ?_⟩
    · have : m ≤ (if m < i then i else m) := by split <;> omega
      exact Int.le_trans this h1
    · rcases List.mem_cons.mp hx with e | hx
      · subst e
        have : x ≤ (if m < x then x else m) := by split <;> omega
        exact Int.le_trans this h1
      · exact h2 x hx
theorem maxI_mem : ∀ (l : List Int) (m : Int), maxI m l ∈ m :: l
  | [], m => List.mem_cons_self
  | i :: r, m => by
    unfold maxI
    have := maxI_mem r (if m < i then i else m)
    rcases List.mem_cons.mp this with e | h
    · rw [e]
      split
      · exact List.mem_cons_of_mem _ List.mem_cons_self
      · exact List.mem_cons_self
    · exact List.mem_cons_of_mem _ (List.mem_cons_of_mem _ h)
theorem maxL_ge {l : List Int} {x : Int} (h : x ∈ l) : x ≤ maxL l := by
  cases l with
  | nil => cases h
  | cons i r =>
    show x ≤ maxI i r
    rcases List.mem_cons.mp h with e | h
    · rw [e]
      exact (maxI_ge r i).1
    · exact (maxI_ge r i).2 x h
theorem maxL_mem {l : List Int} (h : l ≠ []) : maxL l ∈ l := by
  cases l with
  | nil => exact absurd rfl h
  | cons i r => exact maxI_mem r i
theorem maxL_perm {l m : List Int} (h : l.Perm m) : maxL l = maxL m := by
  by_cases e : l = []
  · subst e
    rw [h.symm.eq_nil]
  · have e2 : m ≠ [] := fun z => e (by subst z; exact h.eq_nil)
    have h1 := maxL_ge (h.mem_iff.mp (maxL_mem e))
    have h2 := maxL_ge (h.mem_iff.mpr (maxL_mem e2))
    omega
theorem erase_perm {l : List Int} {k : Nat} (h : k < l.length) : (l.eraseIdx k).Perm (l.erase l[k]) := by
  have e : (l[k] :: l.eraseIdx k).Perm l := by
    rw [List.eraseIdx_eq_take_drop_succ]
    refine List.perm_middle.symm.trans ?_
    rw [List.getElem_cons_drop h, List.take_append_drop]
  exact (e.trans (List.perm_cons_erase (List.getElem_mem h))).cons_inv
theorem opts_map {l : List Int} {f : Int → List Int → Int} (hf : ∀ x a b, a.Perm b → a.length + 1 = l.length → f x a = f x b) : ((List.range l.length).map fun k => f (l.getD k 0) (l.eraseIdx k)) = l.map fun x => f x (l.erase x) := by
  apply List.ext_getElem
  · simp
  · intro i h1 h2
    have hi : i < l.length := by simpa using h2
    simp only [List.getElem_map, List.getElem_range]
    rw [List.getD_eq_getElem?_getD, List.getElem?_eq_getElem hi]
    exact hf _ _ _ (erase_perm hi) (by rw [List.length_eraseIdx_of_lt hi]; omega)
theorem bestN_perm : ∀ (n : Nat) {ss ss' rs rs' : List Int}, ss.length + rs.length = n → ss.Perm ss' → rs.Perm rs' → bestN ss rs = bestN ss' rs' := by
  intro n
  induction n with
  | zero =>
    intro ss ss' rs rs' h p q
    have h1 : ss = [] := List.eq_nil_of_length_eq_zero (by omega)
    have h2 : rs = [] := List.eq_nil_of_length_eq_zero (by omega)
    subst h1 h2
    rw [p.symm.eq_nil, q.symm.eq_nil]
  | succ n ih =>
    intro ss ss' rs rs' h p q
    have lp := p.length_eq
    have lq := q.length_eq
    rw [bestN_eq, bestN_eq]
    apply maxL_perm
    unfold optsN
    rw [opts_map (l := ss) (f := fun x a => handed x 2 (bestN a rs)) (fun x a b hab hl => by rw [ih (by omega) hab (List.Perm.refl rs)]),
      opts_map (l := ss') (f := fun x a => handed x 2 (bestN a rs')) (fun x a b hab hl => by rw [ih (by omega) hab (List.Perm.refl rs')]),
      opts_map (l := rs) (f := fun x a => handed x 4 (bestN ss a)) (fun x a b hab hl => by rw [ih (by omega) (List.Perm.refl ss) hab]),
      opts_map (l := rs') (f := fun x a => handed x 4 (bestN ss' a)) (fun x a b hab hl => by rw [ih (by omega) (List.Perm.refl ss') hab])]
    refine List.Perm.append ?_ ?_
    · refine (p.map _).trans ?_
      rw [List.map_congr_left fun x hx => ?_]
      have hx1 : x ∈ ss := p.mem_iff.mpr hx
      have := List.length_erase_of_mem hx1
      have := List.length_pos_of_mem hx1
      show handed x 2 (bestN (ss.erase x) rs) = handed x 2 (bestN (ss'.erase x) rs')
      rw [ih (by omega) (p.erase x) q]
    · refine (q.map _).trans ?_
      rw [List.map_congr_left fun x hx => ?_]
      have hx1 : x ∈ rs := q.mem_iff.mpr hx
      have := List.length_erase_of_mem hx1
      have := List.length_pos_of_mem hx1
      show handed x 4 (bestN ss (rs.erase x)) = handed x 4 (bestN ss' (rs'.erase x))
      rw [ih (by omega) p (q.erase x)]
end DL
end S_K62y
section S_K62z
set_option Elab.async false
set_option linter.all false
set_option maxRecDepth 100000
set_option autoImplicit false
namespace DL
open PySem PySem.Spec PyProof.Rows L2 L2H
/-- a store above st: the memo at m, the list of worths at st.sz, the rest of no account -/
structure IW (st : Sto) (m : Nat) (kvs : List (List D × D)) (ws : List Int) (s : Sto) : Prop where
  hm : m < st.sz
  sz : st.sz < s.sz
  w : s.get st.sz = some (.lst (dI ws))
  d : s.get m = some (.dg kvs)
  p : s.pop st.sz = st.put m (.dg kvs)
section
variable {st s : Sto} {m : Nat} {kvs : List (List D × D)} {ws : List Int}
theorem IW.push (h : IW st m kvs ws s) (o : O) : IW st m kvs ws (s.push o) where
  hm := h.hm
  sz := Nat.lt_succ_of_lt h.sz
  w := by
    have := h.sz
    rw [get_push, if_neg (by omega)]
    exact h.w
  d := by
    have := h.sz
    have := h.hm
    rw [get_push, if_neg (by omega)]
    exact h.d
  p := by
    rw [pop_push' (Nat.le_of_lt h.sz)]
    exact h.p
theorem IW.putm (h : IW st m kvs ws s) (kvs' : List (List D × D)) : IW st m kvs' ws (s.put m (.dg kvs')) where
  hm := h.hm
  sz := h.sz
  w := by
    have := h.hm
    rw [get_put_ne (by omega) (by have := h.sz; omega)]
    exact h.w
  d := get_put_self h.d
  p := by
    rw [pop_put_lt h.hm (Nat.le_of_lt h.sz), h.p, put_put_self]
theorem IW.putw (h : IW st m kvs ws s) (ws' : List Int) : IW st m kvs ws' (s.put st.sz (.lst (dI ws'))) where
  hm := h.hm
  sz := h.sz
  w := get_put_self h.w
  d := by
    have := h.hm
    rw [get_put_ne (by omega) h.sz]
    exact h.d
  p := by
    rw [pop_put_ge (Nat.le_refl _) h.sz]
    exact h.p
end
def lawKey (ss rs : List Int) : List D := [.tup (dI (sortI ss)), .tup (dI (sortI rs))]
def PreB (ss rs : List Int) (c : Nat) (st : Sto) (m : Nat) (kvs0 : List (List D × D)) (ws : List Int) (e : Env) (s : Sto) : Prop := ∃ o5 o6 o7 kvs, e = [some (.tup (dI ss)), some (.tup (dI rs)), some (.ref m), some (.tup (lawKey ss rs)), some (.ref st.sz), o5, o6, o7] ∧
  IW st m kvs ws s ∧ Memo bestN kvs ∧ kvs.length ≤ kvs0.length + c
theorem handed_two (x r : Int) : handed x 2 r = minI (-x - r) (if 2 < x then [-(x - 2) + 2 + r] else []) := by
  unfold handed
  by_cases h : 2 < x
  · rw [if_neg (by omega), if_pos h]
    unfold minI minI
    split <;> omega
  · rw [if_pos (by omega), if_neg h]
    rfl
theorem handed_four (x r : Int) : handed x 4 r = min (-x - r) (-(x - 4) + 4 + r) := by
  unfold handed
  rw [if_neg (by omega)]
theorem lb_l2 {F : Fn} {n b : Nat} {st : Sto} {m : Nat} {kvs0 : List (List D × D)} {ss rs : List Int} (hF : Does bestN F n) (hn : ss.length + rs.length = n + 1) (hk : kvs0.length + cnt (n + 1) < 1000000) (hb : b ≤ st.sz) (hs : rs.length < 1000) (ws0 : List Int) (hw0 : ws0.length ≤ ss.length) (hs0 : ss.length < 1000)
    {env : Env} {s : Sto} (h : PreB ss rs (ss.length * cnt n) st m kvs0 ws0 env s) :
    ∃ e2 s2, lp__law_best_2 F b env s = .nx e2 s2 ∧ PreB ss rs ((n + 1) * cnt n) st m kvs0 (ws0 ++ (List.range rs.length).map fun k => handed (rs.getD k 0) 4 (bestN ss (rs.eraseIdx k))) e2 s2 := by
  have hw : (wRange1 (cConsA (cCall bLen (cConsA (cVar 1) cNilA)) cNilA)) b env s = .ok (.sn ((List.range rs.length).map fun k : Nat => D.int (k : Int))) s := by
    obtain ⟨o5, o6, o7, kvs, rfl, _⟩ := h
    rw [wRange1_eq]
    simp
    rw [dI_len]
    exact rngW_nat (by omega) _
  unfold lp__law_best_2
  rw [sFor_sn hw]
  have := forS_inv (t := gN 5) (f := lb__law_best_2 F) (b := b) (fun i e s => i ≤ rs.length → PreB ss rs ((ss.length + i) * cnt n) st m kvs0 (ws0 ++ (List.range i).map fun k => handed (rs.getD k 0) 4 (bestN ss (rs.eraseIdx k))) e s) (ds := (List.range rs.length).map fun k : Nat => D.int (k : Int)) (k := 0) (env := env) (st := s) (fun _ => by simpa using h) (by
    intro i d e s hd hp
    rw [Nat.zero_add] at hp ⊢
    by_cases hi : i < rs.length
    · rw [List.getElem?_map, List.getElem?_range hi] at hd
      simp only [Option.map_some, Option.some.injEq] at hd
      subst hd
      obtain ⟨o5, o6, o7, kvs, rfl, hI, hM, hL⟩ := hp (by omega)
      have hc : (ss.length + (i + 1)) * cnt n ≤ (n + 1) * cnt n := Nat.mul_le_mul_right _ (by omega)
      have hc2 : (ss.length + (i + 1)) * cnt n = (ss.length + i) * cnt n + cnt n := by rw [← Nat.add_assoc, Nat.add_mul _ 1, Nat.one_mul]
      have hc3 : cnt (n + 1) = 1 + (n + 1) * cnt n := rfl
      obtain ⟨kvs', e1, M1, L1⟩ := hF ss (rs.eraseIdx i) s m kvs (by rw [List.length_eraseIdx_of_lt hi]; omega) hI.d hM (by omega)
      have hI1 := hI.putm kvs'
      have hwl : (ws0 ++ (List.range i).map fun k => handed (rs.getD k 0) 4 (bestN ss (rs.eraseIdx k))).length < 2000 := by
        rw [List.length_append, List.length_map, List.length_range]
        omega
      rw [List.range_succ, List.map_append, List.map_cons, List.map_nil, ← List.append_assoc, show rs.getD i 0 = rs[i] by rw [List.getD_eq_getElem?_getD, List.getElem?_eq_getElem hi]; rfl]
      generalize (ws0 ++ (List.range i).map fun k => handed (rs.getD k 0) 4 (bestN ss (rs.eraseIdx k))) = ws at hI hI1 hwl ⊢
      refine ⟨_, rfl, [some (.tup (dI ss)), some (.tup (dI rs)), some (.ref m), some (.tup (lawKey ss rs)), some (.ref st.sz), some (.int i), some (.int (bestN ss (rs.eraseIdx i))), o7],
        (s.put m (.dg kvs')).put st.sz (.lst (dI (ws ++ [handed rs[i] 4 (bestN ss (rs.eraseIdx i))]))), ?_, fun _ => ⟨some (.int i), some (.int (bestN ss (rs.eraseIdx i))), o7, kvs', rfl, hI1.putw _, M1, by omega⟩⟩
      unfold lb__law_best_2
      have hsl : ∀ st, oAdd (.tup (cutD (dI rs) none (some (i : Int)))) (.tup (cutD (dI rs) (some ((i : Int) + 1)) none)) st = .ok (.tup (dI (rs.eraseIdx i))) st := fun st => by
        rw [oAdd_tup, cut_erase hi]
        rw [← List.length_append, cut_erase hi, dI_len, List.length_eraseIdx_of_lt hi]
        show _ ≤ 1000000
        omega
      have ha : ∀ (x : Int), mAppend b (.ref st.sz) [.int x] (s.put m (.dg kvs')) = .ok .non ((s.put m (.dg kvs')).put st.sz (.lst (dI (ws ++ [x])))) := fun x => by
        rw [mAppend_of hI1.w (by rw [dI_len]; omega) (fits_int _ _ _), dI_app, dI_one]
      have hr : isRv .lst (.ref st.sz) (s.put m (.dg kvs')) = true := isRv_lst (list_of_get hI1.w)
      have hsl1 : ∀ st, oSl none (some (i : Int)) (.tup (dI rs)) st = .ok (.tup (cutD (dI rs) none (some (i : Int)))) st := fun _ => rfl
      have hsl2 : ∀ st, oSl (some ((i : Int) + 1)) none (.tup (dI rs)) st = .ok (.tup (cutD (dI rs) (some ((i : Int) + 1)) none)) st := fun _ => rfl
      have hat : L2.atI (dI rs) (i : Int) = some (.int rs[i]) := atI_some (by rw [dI_get, List.getElem?_eq_getElem hi]; rfl)
      simp [hwl, hsl1, hsl2, hsl, e1, ha, hr, hat, handed_four]
    · have : ((List.range rs.length).map fun k : Nat => D.int (k : Int))[i]? = none := List.getElem?_eq_none (by rw [List.length_map, List.length_range]; omega)
      rw [this] at hd
      cases hd)
  rw [Nat.zero_add, List.length_map, List.length_range] at this
  obtain ⟨e2, s2, q1, q2⟩ := this
  rw [hn] at q2
  exact ⟨e2, s2, q1, q2 (Nat.le_refl _)⟩
theorem lb_l1 {F : Fn} {n b : Nat} {st : Sto} {m : Nat} {kvs0 : List (List D × D)} {ss rs : List Int} (hF : Does bestN F n) (hn : ss.length + rs.length = n + 1) (hk : kvs0.length + cnt (n + 1) < 1000000) (hb : b ≤ st.sz) (hs : ss.length < 1000)
    {env : Env} {s : Sto} (h : PreB ss rs 0 st m kvs0 [] env s) :
    ∃ e2 s2, lp__law_best_1 F b env s = .nx e2 s2 ∧ PreB ss rs (ss.length * cnt n) st m kvs0 ((List.range ss.length).map fun k => handed (ss.getD k 0) 2 (bestN (ss.eraseIdx k) rs)) e2 s2 := by
  have hw : (wRange1 (cConsA (cCall bLen (cConsA (cVar 0) cNilA)) cNilA)) b env s = .ok (.sn ((List.range ss.length).map fun k : Nat => D.int (k : Int))) s := by
    obtain ⟨o5, o6, o7, kvs, rfl, _⟩ := h
    rw [wRange1_eq]
    simp
    rw [dI_len]
    exact rngW_nat (by omega) _
  unfold lp__law_best_1
  rw [sFor_sn hw]
  have := forS_inv (t := gN 5) (f := lb__law_best_1 F) (b := b) (fun i e s => i ≤ ss.length → PreB ss rs (i * cnt n) st m kvs0 ((List.range i).map fun k => handed (ss.getD k 0) 2 (bestN (ss.eraseIdx k) rs)) e s) (ds := (List.range ss.length).map fun k : Nat => D.int (k : Int)) (k := 0) (env := env) (st := s) (fun _ => by simpa using h) (by
    intro i d e s hd hp
    rw [Nat.zero_add] at hp ⊢
    by_cases hi : i < ss.length
    · rw [List.getElem?_map, List.getElem?_range hi] at hd
      simp only [Option.map_some, Option.some.injEq] at hd
      subst hd
      obtain ⟨o5, o6, o7, kvs, rfl, hI, hM, hL⟩ := hp (by omega)
      have hc : (i + 1) * cnt n ≤ (n + 1) * cnt n := Nat.mul_le_mul_right _ (by omega)
      have hc2 : (i + 1) * cnt n = i * cnt n + cnt n := by rw [Nat.add_mul, Nat.one_mul]
      have hc3 : cnt (n + 1) = 1 + (n + 1) * cnt n := rfl
      obtain ⟨kvs', e1, M1, L1⟩ := hF (ss.eraseIdx i) rs s m kvs (by rw [List.length_eraseIdx_of_lt hi]; omega) hI.d hM (by omega)
      have hI1 := hI.putm kvs'
      have hwl : ((List.range i).map fun k => handed (ss.getD k 0) 2 (bestN (ss.eraseIdx k) rs)).length < 2000 := by
        rw [List.length_map, List.length_range]
        omega
      rw [List.range_succ, List.map_append, List.map_cons, List.map_nil, show ss.getD i 0 = ss[i] by rw [List.getD_eq_getElem?_getD, List.getElem?_eq_getElem hi]; rfl]
      generalize ((List.range i).map fun k => handed (ss.getD k 0) 2 (bestN (ss.eraseIdx k) rs)) = ws at hI hI1 hwl ⊢
      have hb2 : ∃ o : List Int, o = (-ss[i] - bestN (ss.eraseIdx i) rs) :: (if 2 < ss[i] then [-(ss[i] - 2) + 2 + bestN (ss.eraseIdx i) rs] else []) := ⟨_, rfl⟩
      obtain ⟨o, ho⟩ := hb2
      have hI2 := hI1.push (.lst (dI o))
      refine ⟨_, rfl, [some (.tup (dI ss)), some (.tup (dI rs)), some (.ref m), some (.tup (lawKey ss rs)), some (.ref st.sz), some (.int i), some (.int (bestN (ss.eraseIdx i) rs)), some (.ref s.sz)],
        ((s.put m (.dg kvs')).push (.lst (dI o))).put st.sz (.lst (dI (ws ++ [handed ss[i] 2 (bestN (ss.eraseIdx i) rs)]))), ?_, fun _ => ⟨some (.int i), some (.int (bestN (ss.eraseIdx i) rs)), some (.ref s.sz), kvs', rfl, hI2.putw _, M1, by omega⟩⟩
      unfold lb__law_best_1
      have hsl : ∀ st, oAdd (.tup (cutD (dI ss) none (some (i : Int)))) (.tup (cutD (dI ss) (some ((i : Int) + 1)) none)) st = .ok (.tup (dI (ss.eraseIdx i))) st := fun st => by
        rw [oAdd_tup, cut_erase hi]
        rw [← List.length_append, cut_erase hi, dI_len, List.length_eraseIdx_of_lt hi]
        show _ ≤ 1000000
        omega
      have ha : ∀ (x : Int), mAppend b (.ref st.sz) [.int x] ((s.put m (.dg kvs')).push (.lst (dI o))) = .ok .non (((s.put m (.dg kvs')).push (.lst (dI o))).put st.sz (.lst (dI (ws ++ [x])))) := fun x => by
        rw [mAppend_of hI2.w (by rw [dI_len]; omega) (fits_int _ _ _), dI_app, dI_one]
      have hr : isRv .lst (.ref st.sz) ((s.put m (.dg kvs')).push (.lst (dI o))) = true := isRv_lst (list_of_get hI2.w)
      have hsl1 : ∀ st, oSl none (some (i : Int)) (.tup (dI ss)) st = .ok (.tup (cutD (dI ss) none (some (i : Int)))) st := fun _ => rfl
      have hsl2 : ∀ st, oSl (some ((i : Int) + 1)) none (.tup (dI ss)) st = .ok (.tup (cutD (dI ss) (some ((i : Int) + 1)) none)) st := fun _ => rfl
      have hat : L2.atI (dI ss) (i : Int) = some (.int ss[i]) := atI_some (by rw [dI_get, List.getElem?_eq_getElem hi]; rfl)
      have hmn : bMin [.ref s.sz] ((s.put m (.dg kvs')).push (.lst (dI o))) = .ok (.int (handed ss[i] 2 (bestN (ss.eraseIdx i) rs))) ((s.put m (.dg kvs')).push (.lst (dI o))) := by
        rw [handed_two]
        rw [ho]
        exact bMin_ref _ (list_of_get (get_push_self (s.put m (.dg kvs')) _))
      have hadd : ∀ x y : List Int, x.length ≤ 1 → y.length ≤ 1 → oAdd (.ref s.sz) (.ref (s.sz + 1)) (((s.put m (.dg kvs')).push (.lst (dI x))).push (.lst (dI y))) = .ok (.ref (s.sz + 2)) ((((s.put m (.dg kvs')).push (.lst (dI x))).push (.lst (dI y))).push (.lst (dI (x ++ y)))) := fun x y h1 h2 => by
        rw [dI_app]
        refine oAdd_ref _ ?_ ?_ (by rw [dI_len, dI_len]; show _ ≤ 1000000; omega)
        · rw [get_push_ne (by simp), show s.sz = (s.put m (.dg kvs')).sz from rfl, get_push_self]
        · exact get_push_self ((s.put m (.dg kvs')).push (.lst (dI x))) _
      have hgc : ∀ a b : O, gc s.sz (.ref (s.sz + 2)) ((((s.put m (.dg kvs')).push a).push b).push (.lst (dI o))) = (.ref s.sz, (s.put m (.dg kvs')).push (.lst (dI o))) := fun a b => by
        refine (gc_ref_new (n := s.sz + 2) (o := .lst (dI o)) (by omega) (get_push_self (((s.put m (.dg kvs')).push a).push b) _) (by show D.los _ (dI o) = true; unfold dI; exact los_ints _ _)).trans ?_
        rw [pop_push' (by simp; omega), pop_push' (by simp), pop_push' (by simp), pop_put_own]
      by_cases h2 : 2 < ss[i]
      · have a1 := hadd [-ss[i] - bestN (ss.eraseIdx i) rs] [-(ss[i] - 2) + 2 + bestN (ss.eraseIdx i) rs] (by simp) (by simp)
        rw [show [-ss[i] - bestN (ss.eraseIdx i) rs] ++ [-(ss[i] - 2) + 2 + bestN (ss.eraseIdx i) rs] = o by rw [ho, if_pos h2]; rfl, dI_one, dI_one] at a1
        simp [hwl, hsl1, hsl2, hsl, e1, ha, hr, hat, h2, a1, hgc, hmn]
      · have a1 := hadd [-ss[i] - bestN (ss.eraseIdx i) rs] [] (by simp) (by simp)
        rw [show [-ss[i] - bestN (ss.eraseIdx i) rs] ++ [] = o by rw [ho, if_neg h2]; rfl, dI_one, show dI [] = [] from rfl] at a1
        simp [hwl, hsl1, hsl2, hsl, e1, ha, hr, hat, h2, a1, hgc, hmn]
    · have : ((List.range ss.length).map fun k : Nat => D.int (k : Int))[i]? = none := List.getElem?_eq_none (by rw [List.length_map, List.length_range]; omega)
      rw [this] at hd
      cases hd)
  rw [Nat.zero_add, List.length_map, List.length_range] at this
  obtain ⟨e2, s2, q1, q2⟩ := this
  exact ⟨e2, s2, q1, q2 (Nat.le_refl _)⟩
end DL
end S_K62z
section S_K62w
set_option Elab.async false
set_option linter.all false
set_option maxRecDepth 100000
set_option autoImplicit false
namespace DL
open PySem PySem.Spec PyProof.Rows L2 L2H
theorem lb_ll {F : Fn} {n b : Nat} {st : Sto} {m : Nat} {kvs0 : List (List D × D)} {ss rs : List Int} (hF : ∀ n', n = n' + 1 → Does bestN F n') (hn : ss.length + rs.length = n) (hk : kvs0.length + cnt n < 1000000) (hb : b ≤ st.sz) (hs : n < 500)
    {env : Env} {s : Sto} (h : PreB ss rs 0 st m kvs0 [] env s) :
    ∃ e1 s1 e2 s2, lp__law_best_1 F b env s = .nx e1 s1 ∧ lp__law_best_2 F b e1 s1 = .nx e2 s2 ∧ PreB ss rs (cnt n - 1) st m kvs0 (optsN ss rs) e2 s2 := by
  cases n with
  | zero =>
    have h1 : ss = [] := List.eq_nil_of_length_eq_zero (by omega)
    have h2 : rs = [] := List.eq_nil_of_length_eq_zero (by omega)
    subst h1 h2
    obtain ⟨o5, o6, o7, kvs, rfl, q⟩ := h
    refine ⟨_, _, _, _, rfl, rfl, o5, o6, o7, kvs, rfl, q⟩
  | succ n =>
    obtain ⟨e1, s1, a1, p1⟩ := lb_l1 (hF n rfl) hn hk hb (by omega) h
    obtain ⟨e2, s2, a2, p2⟩ := lb_l2 (hF n rfl) hn hk hb (by omega) _ (by rw [List.length_map, List.length_range]; exact Nat.le_refl _) (by omega) p1
    refine ⟨e1, s1, e2, s2, a1, a2, ?_⟩
    have : cnt (n + 1) - 1 = (n + 1) * cnt n := by
      show 1 + (n + 1) * cnt n - 1 = _
      omega
    rw [this]
    exact p2
theorem bestN_sort (ss rs : List Int) : bestN (sortI ss) (sortI rs) = bestN ss rs := bestN_perm _ rfl (sortI_perm ss) (sortI_perm rs)
theorem lb_spec : ∀ k n, n < k → n < 400 → Does bestN (d__law_best k) n
  | 0, _, h, _ => by omega
  | k + 1, n, hk, hn => by
    intro ss rs st m kvs hl hm hM hc
    have hks : D.gks 7 (lawKey ss rs) = true := key_gks (sortI ss) (sortI rs)
    have hlo : ∀ b, D.los b (lawKey ss rs) = true := fun b => by
      unfold lawKey
      rw [los_cons, los_cons, los_nil, lo_tup, lo_tup]
      unfold dI
      rw [los_ints, los_ints]
      rfl
    have hg : ∀ b s, gc b (.tup (lawKey ss rs)) s = (.tup (lawKey ss rs), s.pop b) := fun b s => gc_tup (hlo b)
    have hs1 : ∀ s, bSorted [.tup (dI ss)] s = .ok (.ref s.sz) (s.push (.lst (dI (sortI ss)))) := fun s => bSorted_tup (by omega)
    have hs2 : ∀ s, bSorted [.tup (dI rs)] s = .ok (.ref s.sz) (s.push (.lst (dI (sortI rs)))) := fun s => bSorted_tup (by omega)
    have ht : ∀ (s : Sto) l, bTuple [.ref s.sz] (s.push (.lst l)) = .ok (.tup l) (s.push (.lst l)) := fun s l => bTuple_ref _ (list_of_get (get_push_self s _))
    have ht2 : ∀ (s : Sto) u l, bTuple [.ref (s.sz + 1)] ((s.push u).push (.lst l)) = .ok (.tup l) ((s.push u).push (.lst l)) := fun s u l => ht (s.push u) l
    have hpp : ((st.push (.lst (dI (sortI ss)))).push (.lst (dI (sortI rs)))).pop st.sz = st := by
      rw [pop_push' (by simp), pop_push' (Nat.le_refl _), pop_self]
    have hg2 : gc st.sz (.tup [.tup (dI (sortI ss)), .tup (dI (sortI rs))]) ((st.push (.lst (dI (sortI ss)))).push (.lst (dI (sortI rs)))) = (.tup (lawKey ss rs), st) := by
      rw [show [D.tup (dI (sortI ss)), .tup (dI (sortI rs))] = lawKey ss rs from rfl, hg, hpp]
    cases e : gget (lawKey ss rs) kvs with
    | some v =>
      have := hM.at e
      rw [bestN_sort] at this
      subst this
      refine ⟨kvs, ?_, hM, by omega⟩
      rw [put_get hm]
      unfold d__law_best
      refine fnD_to rfl rfl ?_
      simp [oNotIn_dg hm hks, e, oIx_dg hm hks e, hs1, hs2, ht, ht2, hg2]
    | none =>
      obtain ⟨e1, s1, e2, s2, a1, a2, o5, o6, o7, kvs', rfl, hI, M1, L1⟩ := lb_ll (F := d__law_best k) (b := st.sz) (n := n) (kvs0 := kvs) (env := [some (.tup (dI ss)), some (.tup (dI rs)), some (.ref m), some (.tup (lawKey ss rs)), some (.ref st.sz), none, none, none]) (s := st.push (.lst []))
        (fun n' e => lb_spec k n' (by omega) (by omega)) hl hc (Nat.le_refl _) (by omega) ⟨none, none, none, kvs, rfl, ⟨get_lt hm, Nat.lt_succ_self _, get_push_self st _, by rw [get_push_old (get_lt hm)]; exact hm, by rw [pop_push, put_get hm]⟩, hM, Nat.le_refl _⟩
      have hc1 : 1 ≤ cnt n := by cases n <;> simp [cnt] <;> omega
      have hset := M1.set (sortI ss) (sortI rs)
      rw [bestN_sort] at hset
      refine ⟨gset (lawKey ss rs) (.int (bestN ss rs)) kvs', ?_, hset, by have := gset_len (lawKey ss rs) (.int (bestN ss rs)) kvs'; omega⟩
      unfold d__law_best
      refine fnD_to rfl rfl ?_
      have hI2 := hI.putm (gset (lawKey ss rs) (.int (bestN ss rs)) kvs')
      have hp : ∀ b, put1 b (.ref m) (.tup (lawKey ss rs)) (.int (bestN ss rs)) s2 = some (s2.put m (.dg (gset (lawKey ss rs) (.int (bestN ss rs)) kvs'))) := fun b =>
        put1_dg hI.d hks (by omega) (fits_int _ _ _)
      have hx : oIx (.ref m) (.tup (lawKey ss rs)) (s2.put m (.dg (gset (lawKey ss rs) (.int (bestN ss rs)) kvs'))) = .ok (.int (bestN ss rs)) (s2.put m (.dg (gset (lawKey ss rs) (.int (bestN ss rs)) kvs'))) :=
        oIx_dg hI2.d hks (by rw [gget_gset, if_pos rfl])
      have hln : bLen [.ref st.sz] s2 = .ok (.int (optsN ss rs).length) s2 := by
        rw [bLen_ref _ (list_of_get hI.w), dI_len]
      have hpop := hI2.p
      have hnew := gc_new st [] rfl
      have hbst := bestN_eq ss rs
      cases ho : optsN ss rs with
      | nil =>
        rw [ho] at hbst hln
        have hbst : bestN ss rs = 0 := hbst
        rw [hbst] at hp hx hpop ⊢
        simp [oNotIn_dg hm hks, e, hs1, hs2, ht, ht2, hg2, hnew, a1, a2, hln, hp, hx, hpop]
      | cons i is =>
        rw [ho] at hbst hln
        have hmx : bMax [.ref st.sz] s2 = .ok (.int (bestN ss rs)) s2 := by
          rw [hbst]
          have hw := hI.w
          rw [ho] at hw
          exact bMax_ref _ (i := i) (is := is) (list_of_get hw)
        simp [oNotIn_dg hm hks, e, hs1, hs2, ht, ht2, hg2, hnew, a1, a2, hln, hmx, hp, hx, hpop]
end DL
end S_K62w
section S_K62v
set_option Elab.async false
set_option linter.all false
set_option maxRecDepth 100000
set_option autoImplicit false
namespace DL
open PySem PySem.Spec PyProof.Rows L2 L2H
def badS (x : Int) : Bool := decide (x < 1)
def badR (x : Int) : Bool := decide (x < 4) || (x.fmod 2 == 1)
theorem cl2_spec (ss rs : List Int) (b : Nat) (st : Sto) (h : ss.length ≤ 1000) : cl_boxes_best_2 b [some (.tup (dI ss)), some (.tup (dI rs)), none] st = .ok (.ref st.sz) (st.push (.lst ((ss.map badS).map D.bl))) := by
  unfold cl_boxes_best_2
  rw [cLc_eq, wSeq_eq]
  simp
  rw [lcW_sn (by rw [dI_len]; omega)]
  unfold dI
  rw [lcS_map D.int (fun x => D.bl (badS x)) fun a _ => ⟨_, st, .bl (badS a), st, rfl, rfl, by rw [pop_self]; rfl, by simp⟩]
  simp
  rfl
theorem cl1_spec (ss rs : List Int) (b : Nat) (st : Sto) (h : rs.length ≤ 1000) : cl_boxes_best_1 b [some (.tup (dI ss)), some (.tup (dI rs)), none] st = .ok (.ref st.sz) (st.push (.lst ((rs.map badR).map D.bl))) := by
  unfold cl_boxes_best_1
  rw [cLc_eq, wSeq_eq]
  simp
  rw [lcW_sn (by rw [dI_len]; omega)]
  unfold dI
  rw [lcS_map D.int (fun x => D.bl (badR x)) fun a _ => ⟨_, st, .bl (badR a), st, rfl, rfl, by
    rw [pop_self]
    simp [wipeE, oMod_int, badR]
    by_cases h : a < 4 <;> simp [h], by simp⟩]
  simp
  rfl
theorem boxes_spec {ss rs : List Int} (h1 : ∀ x ∈ ss, badS x = false) (h2 : ∀ x ∈ rs, badR x = false) (hl : ss.length + rs.length < 9) (st : Sto) : d_boxes_best [.tup (dI ss), .tup (dI rs)] st = .ok (.int (bestN ss rs)) st := by
  have a1 : (ss.map badS).any id = false := by
    rw [List.any_map, List.any_eq_false]
    intro x hx
    simp [h1 x hx]
  have a2 : (rs.map badR).any id = false := by
    rw [List.any_map, List.any_eq_false]
    intro x hx
    simp [h2 x hx]
  have b1 : bAny [.ref st.sz] (st.push (.lst ((ss.map badS).map D.bl))) = .ok (.bl false) (st.push (.lst ((ss.map badS).map D.bl))) := by
    rw [bAny_ref _ (list_of_get (get_push_self st _)), a1]
  have b2 : ∀ u, bAny [.ref (st.sz + 1)] ((st.push u).push (.lst ((rs.map badR).map D.bl))) = .ok (.bl false) ((st.push u).push (.lst ((rs.map badR).map D.bl))) := fun u => by
    refine (bAny_ref _ (n := st.sz + 1) (list_of_get (get_push_self (st.push u) _))).trans ?_
    rw [a2]
  have hs1 : ∀ s, bSorted [.tup (dI ss)] s = .ok (.ref s.sz) (s.push (.lst (dI (sortI ss)))) := fun s => bSorted_tup (by omega)
  have hs2 : ∀ s, bSorted [.tup (dI rs)] s = .ok (.ref s.sz) (s.push (.lst (dI (sortI rs)))) := fun s => bSorted_tup (by omega)
  have ht : ∀ (s : Sto) l, bTuple [.ref s.sz] (s.push (.lst l)) = .ok (.tup l) (s.push (.lst l)) := fun s l => bTuple_ref _ (list_of_get (get_push_self s _))
  have hcn : cnt (ss.length + rs.length) < 1000000 := by
    have : ∀ n, n < 9 → cnt n < 1000000 := by decide
    exact this _ hl
  have ht2 : ∀ (s : Sto) u l, bTuple [.ref (s.sz + 1)] ((s.push u).push (.lst l)) = .ok (.tup l) ((s.push u).push (.lst l)) := fun s u l => ht (s.push u) l
  have ht3 : ∀ (s : Sto) u1 u2 l, bTuple [.ref (s.sz + 2)] (((s.push u1).push u2).push (.lst l)) = .ok (.tup l) (((s.push u1).push u2).push (.lst l)) := fun s u1 u2 l => ht ((s.push u1).push u2) l
  have ht4 : ∀ (s : Sto) u1 u2 u3 l, bTuple [.ref (s.sz + 3)] ((((s.push u1).push u2).push u3).push (.lst l)) = .ok (.tup l) ((((s.push u1).push u2).push u3).push (.lst l)) := fun s u1 u2 u3 l => ht (((s.push u1).push u2).push u3) l
  have hob : ∀ s : Sto, ∃ kvs', d_open_best 40 [.tup (dI (sortI ss)), .tup (dI (sortI rs)), .ref s.sz] (s.push (.dg [])) = .ok (.int (bestN ss rs)) (s.push (.dg kvs')) := fun s => by
    obtain ⟨kvs', e, _⟩ := ob_spec 40 (ss.length + rs.length) (by omega) (by omega) (sortI ss) (sortI rs) (s.push (.dg [])) s.sz [] (by rw [sortI_len, sortI_len]) (get_push_self s _) (fun ks v h => by cases h) (by show 0 + _ < _; omega)
    rw [bestN_sort, put_push_self] at e
    exact ⟨_, e⟩
  obtain ⟨kvs', e⟩ := hob ((((st.push (.lst ((ss.map badS).map D.bl))).push (.lst ((rs.map badR).map D.bl))).push (.lst (dI (sortI ss)))).push (.lst (dI (sortI rs))))
  unfold d_boxes_best
  refine fnD_to rfl rfl ?_
  have c1 := cl2_spec ss rs st.sz st (by omega)
  have c2 := cl1_spec ss rs st.sz (st.push (.lst ((ss.map badS).map D.bl))) (by omega)
  generalize (ss.map badS).map D.bl = l1 at *
  generalize (rs.map badR).map D.bl = l2 at *
  simp at e
  simp [c1, c2, b1, b2, hs1, hs2, ht3, ht4, e]
theorem boxes_bad {ss rs : List Int} (h : (∃ x ∈ ss, badS x = true) ∨ (∃ x ∈ rs, badR x = true)) (hl : ss.length + rs.length < 9) (st : Sto) : ∃ s, d_boxes_best [.tup (dI ss), .tup (dI rs)] st = .er ⟨1, some (.str ("boxes" : PySem.Str))⟩ s := by
  have c1 := cl2_spec ss rs st.sz st (by omega)
  have b1 : bAny [.ref st.sz] (st.push (.lst ((ss.map badS).map D.bl))) = .ok (.bl ((ss.map badS).any id)) (st.push (.lst ((ss.map badS).map D.bl))) := by
    rw [bAny_ref _ (list_of_get (get_push_self st _))]
  have c2 := cl1_spec ss rs st.sz (st.push (.lst ((ss.map badS).map D.bl))) (by omega)
  have b2 : ∀ u, bAny [.ref (st.sz + 1)] ((st.push u).push (.lst ((rs.map badR).map D.bl))) = .ok (.bl ((rs.map badR).any id)) ((st.push u).push (.lst ((rs.map badR).map D.bl))) := fun u => by
    exact bAny_ref _ (n := st.sz + 1) (list_of_get (get_push_self (st.push u) _))
  have hor : (ss.map badS).any id = true ∨ (rs.map badR).any id = true := by
    rw [List.any_map, List.any_map, List.any_eq_true, List.any_eq_true]
    exact h
  by_cases q : (ss.map badS).any id = true
  · rw [q] at b1
    refine ⟨st.push (.lst ((ss.map badS).map D.bl)), ?_⟩
    unfold d_boxes_best
    refine fnD_to rfl rfl ?_
    generalize (ss.map badS).map D.bl = l1 at *
    simp [c1, b1]
  · have q2 := hor.resolve_left q
    rw [Bool.not_eq_true] at q
    rw [q] at b1
    rw [q2] at b2
    refine ⟨(st.push (.lst ((ss.map badS).map D.bl))).push (.lst ((rs.map badR).map D.bl)), ?_⟩
    unfold d_boxes_best
    refine fnD_to rfl rfl ?_
    generalize (ss.map badS).map D.bl = l1 at *
    generalize (rs.map badR).map D.bl = l2 at *
    simp [c1, b1, c2, b2]
end DL
end S_K62v
section S_K62x
set_option Elab.async false
set_option linter.all false
set_option maxRecDepth 100000
set_option autoImplicit false
namespace DL
open PySem PySem.Spec PyProof.Rows L2 L2H
theorem ints_of {P : Int → Prop} : ∀ {ys : List D}, (∀ y ∈ ys, ∃ x, y = .int x ∧ P x) → ∃ l, ys = dI l ∧ ∀ x ∈ l, P x
  | [], _ => ⟨[], rfl, fun _ h => nomatch h⟩
  | y :: r, h => by
    obtain ⟨x, rfl, hx⟩ := h y List.mem_cons_self
    obtain ⟨l, rfl, hl⟩ := ints_of (ys := r) fun z hz => h z (List.mem_cons_of_mem _ hz)
    exact ⟨x :: l, rfl, fun z hz => by
      rcases List.mem_cons.mp hz with e | hz
      · rw [e]
        exact hx
      · exact hl z hz⟩
/-- a row of drawn numbers -/
theorem lc_draws {ns : List Int} {t : Tg} {te : Ex} {env e' : Env} {n : Nat} {P : Int → Prop} (ht : ∀ d, ∃ e, t d env = some e ∧ ∀ s, Dr ns s → s.sz = 2 → ∃ x s', P x ∧ Dr ns s' ∧ s'.sz = 2 ∧ te 2 e s = .ok (.int x) s') (hn : n ≤ 1000) {s : Sto} (h : Dr ns s) (hs : s.sz = 2) :
    ∃ l s', l.length = n ∧ (∀ x ∈ l, P x) ∧ Dr ns s' ∧ s'.sz = 2 ∧ (rngW [.int (n : Int)] s).bind (fun wk s => onLc (lcW t tYesT te env wk s)) = .ok (.ref 2) (s'.push (.lst (dI l))) := by
  obtain ⟨ys, s1, h1, h2, h3, h4, h5⟩ := lcS_inv (t := t) (tt := tYesT) (te := te) (env := env) (fun s => Dr ns s ∧ s.sz = 2) (fun d => ∃ x, d = .int x ∧ P x) (l := (List.range n).map fun k : Nat => D.int (k : Int)) (st := s) ⟨h, hs⟩ (fun d st hd ⟨hp, hz⟩ => by
    obtain ⟨e, q1, q2⟩ := ht d
    obtain ⟨x, s', q3, q4, q5, q6⟩ := q2 st hp hz
    refine ⟨e, st, .int x, s', q1, rfl, ?_, ?_, ?_⟩
    · rw [pop_self, hz]
      exact q6
    · rw [gc_int]
      exact ⟨x, rfl, q3⟩
    · have e0 : (gc st.sz (.int x) s').2 = s' := by
        rw [gc_int]
        exact pop_sz (q5.trans hz.symm)
      rw [e0]
      exact ⟨q4, q5⟩)
  obtain ⟨l, rfl, hl⟩ := ints_of h3
  refine ⟨l, s1, ?_, hl, h4, h5, ?_⟩
  · have := h2
    rw [dI_len, List.length_map, List.length_range] at this
    exact this
  · rw [rngW_nat (by omega), bind_ok, lcW_sn (by rw [List.length_map, List.length_range]; omega), h1, onLc_ok, h5]
theorem toNat_int {v : Int} (h : 0 ≤ v) : ((v.toNat : Nat) : Int) = v := by omega
theorem law1 {ns : List Int} {st : Sto} (h : Dr ns st) (hs : st.sz = 2) : ∃ l st', (∀ x ∈ l, 1 ≤ x ∧ x ≤ 7) ∧ l.length < 5 ∧ Dr ns st' ∧ st'.sz = 2 ∧
    ls_law_1 0 [none, some (.ref 1), none, none, none, none, none, none] st = .nx [none, some (.ref 1), some (.tup (dI l)), none, none, none, none, none] st' := by
  obtain ⟨v, s1, q, e⟩ := draw_ok h (lim := 5) (by decide) (by decide)
  have hv := toNat_int q.lo
  have hv2 := q.hi
  obtain ⟨l, s2, h1, h2, h3, h4, h5⟩ := lc_draws (ns := ns) (t := gN 7) (te := (cBin oAdd (cC (.int 1)) (cCall d__law_draw (cConsA (cVar 1) (cConsA (cC (.int 7)) cNilA))))) (env := [none, some (.ref 1), none, none, none, none, none, none]) (e' := []) (n := v.toNat) (P := fun x => 1 ≤ x ∧ x ≤ 7)
    (fun d => ⟨_, rfl, fun s hp hz => by
      obtain ⟨w, s', q2, e2⟩ := draw_ok hp (lim := 7) (by decide) (by decide)
      have := q2.lo
      have := q2.hi
      exact ⟨1 + w, s', ⟨by omega, by omega⟩, q2.dr, q2.sz.trans hz, by simp [e2]⟩⟩) (by omega) q.dr (q.sz.trans hs)
  rw [hv] at h5
  refine ⟨l, s2, h2, by omega, h3, h4, ?_⟩
  have ht : bTuple [.ref 2] (s2.push (.lst (dI l))) = .ok (.tup (dI l)) (s2.push (.lst (dI l))) := by
    have := list_of_get (get_push_self s2 (.lst (dI l)))
    rw [h4] at this
    exact bTuple_ref _ this
  have hg : gc 2 (.tup (dI l)) (s2.push (.lst (dI l))) = (.tup (dI l), s2) := by
    rw [gc_tup (by unfold dI; exact los_ints _ _)]
    have := pop_push s2 (.lst (dI l))
    rw [h4] at this
    rw [this]
  unfold ls_law_1 cl_law_1
  simp [cLc_eq, wRange1_eq, hs, e]
  rw [show wipeE [none, some (D.ref 1), none, none, none, none, none, none] [7] = [none, some (D.ref 1), none, none, none, none, none, none] from rfl, h5]
  simp [ht, hg]
theorem law2 {ns : List Int} {st : Sto} (h : Dr ns st) (hs : st.sz = 2) (o : Option D) : ∃ l st', (∀ x ∈ l, badR x = false) ∧ l.length < 3 ∧ Dr ns st' ∧ st'.sz = 2 ∧
    ls_law_2 0 [none, some (.ref 1), o, none, none, none, none, none] st = .nx [none, some (.ref 1), o, some (.tup (dI l)), none, none, none, none] st' := by
  obtain ⟨v, s1, q, e⟩ := draw_ok h (lim := 3) (by decide) (by decide)
  have hv := toNat_int q.lo
  have hv2 := q.hi
  obtain ⟨l, s2, h1, h2, h3, h4, h5⟩ := lc_draws (ns := ns) (t := gN 7) (te := (cBin oAdd (cC (.int 4)) (cBin oMul (cC (.int 2)) (cCall d__law_draw (cConsA (cVar 1) (cConsA (cC (.int 3)) cNilA)))))) (env := [none, some (.ref 1), o, none, none, none, none, none]) (e' := []) (n := v.toNat) (P := fun x => badR x = false)
    (fun d => ⟨_, rfl, fun s hp hz => by
      obtain ⟨w, s', q2, e2⟩ := draw_ok hp (lim := 3) (by decide) (by decide)
      have w0 := q2.lo
      have w1 := q2.hi
      have m1 : ∀ st, oMul (.int 2) (.int w) st = .ok (.int (2 * w)) st := fun st => oMul_l _ _ _ (by decide)
      refine ⟨4 + 2 * w, s', ?_, q2.dr, q2.sz.trans hz, by simp [e2, m1]⟩
      have : w = 0 ∨ w = 1 ∨ w = 2 := by omega
      rcases this with rfl | rfl | rfl <;> rfl⟩) (by omega) q.dr (q.sz.trans hs)
  rw [hv] at h5
  refine ⟨l, s2, h2, by omega, h3, h4, ?_⟩
  have ht : bTuple [.ref 2] (s2.push (.lst (dI l))) = .ok (.tup (dI l)) (s2.push (.lst (dI l))) := by
    have := list_of_get (get_push_self s2 (.lst (dI l)))
    rw [h4] at this
    exact bTuple_ref _ this
  have hg : gc 2 (.tup (dI l)) (s2.push (.lst (dI l))) = (.tup (dI l), s2) := by
    rw [gc_tup (by unfold dI; exact los_ints _ _)]
    have := pop_push s2 (.lst (dI l))
    rw [h4] at this
    rw [this]
  unfold ls_law_2 cl_law_2
  simp [cLc_eq, wRange1_eq, hs, e]
  rw [show wipeE [none, some (D.ref 1), o, none, none, none, none, none] [7] = [none, some (D.ref 1), o, none, none, none, none, none] from rfl, h5]
  simp [ht, hg]
theorem law3 {st : Sto} {ss rs : List Int} (hs : st.sz = 2) (hl : ss.length + rs.length < 9) : 
    ls_law_3 0 [none, some (.ref 1), some (.tup (dI ss)), some (.tup (dI rs)), none, none, none, none] st = .nx [none, some (.ref 1), some (.tup (dI ss)), some (.tup (dI rs)), some (.int (bestN ss rs)), none, none, none] st := by
  have hcn : cnt (ss.length + rs.length) < 1000000 := by
    have : ∀ n, n < 9 → cnt n < 1000000 := by decide
    exact this _ hl
  obtain ⟨kvs', e, _⟩ := lb_spec 40 (ss.length + rs.length) (by omega) (by omega) ss rs (st.push (.dg [])) st.sz [] rfl (get_push_self st _) (fun ks v h => by cases h) (by show 0 + _ < _; omega)
  rw [put_push_self] at e
  unfold ls_law_3
  simp [e]
theorem dI_rev (l : List Int) : (dI l).reverse = dI l.reverse := by
  unfold dI
  rw [List.map_reverse]
theorem law4 {st : Sto} {ss rs : List Int} (h1 : ∀ x ∈ ss, badS x = false) (h2 : ∀ x ∈ rs, badR x = false) (hl : ss.length + rs.length < 9) : ∃ st', (∀ ns, Dr ns st → Dr ns st') ∧ st'.sz = st.sz ∧
    ls_law_4 0 [none, some (.ref 1), some (.tup (dI ss)), some (.tup (dI rs)), some (.int (bestN ss rs)), none, none, none] st = .nx [none, some (.ref 1), some (.tup (dI ss)), some (.tup (dI rs)), some (.int (bestN ss rs)), none, none, none] st' := by
  have b1 := boxes_spec h1 h2 hl st
  have b2 := boxes_spec (ss := ss.reverse) (rs := rs.reverse) (fun x hx => h1 x (List.mem_reverse.mp hx)) (fun x hx => h2 x (List.mem_reverse.mp hx)) (by rw [List.length_reverse, List.length_reverse]; exact hl) st
  rw [← bestN_perm _ rfl (List.reverse_perm ss).symm (List.reverse_perm rs).symm] at b2
  have r1 : ∀ (l : List Int) st, oRev (.tup (dI l)) st = .ok (.tup (dI l.reverse)) st := fun l st => by
    rw [← dI_rev]
    rfl
  refine ⟨st, fun _ h => h, rfl, ?_⟩
  unfold ls_law_4
  simp [b1, b2, r1, same_int]
def wr : List D := [.tup [.tup [.int 0], .tup []], .tup [.tup [], .tup [.int 5]], .tup [.tup [], .tup [.int 2]]]
theorem law5 {ns : List Int} {st : Sto} (h : Dr ns st) (hs : st.sz = 2) (o2 o3 o4 : Option D) : ∃ x y st', ((∃ i ∈ x, badS i = true) ∨ (∃ i ∈ y, badR i = true)) ∧ x.length + y.length < 9 ∧
    ls_law_5 0 [none, some (.ref 1), o2, o3, o4, none, none, none] st = .nx [none, some (.ref 1), o2, o3, o4, some (.tup [.tup (dI x), .tup (dI y)]), none, none] st' := by
  have hl : (st.push (.lst wr)).list 2 = some wr := by
    have := list_of_get (get_push_self st (.lst wr))
    rw [hs] at this
    exact this
  obtain ⟨x, s1, i, q, hx, e⟩ := pick_ok (h.push (.lst wr)) (d := .ref 2) (ds := wr) (by unfold wr; simp) (by decide) (.inl ⟨2, rfl, by decide, hl⟩)
  have q1 := q.lo
  have q2 := q.hi
  have q2 : i < 3 := q2
  have key : ∃ a b, x = .tup [.tup (dI a), .tup (dI b)] ∧ ((∃ i ∈ a, badS i = true) ∨ (∃ i ∈ b, badR i = true)) ∧ a.length + b.length < 9 := by
    have : i = 0 ∨ i = 1 ∨ i = 2 := by omega
    rcases this with rfl | rfl | rfl
    · cases hx
      exact ⟨[0], [], rfl, .inl ⟨0, by simp, rfl⟩, by decide⟩
    · cases hx
      exact ⟨[], [5], rfl, .inr ⟨5, by simp, rfl⟩, by decide⟩
    · cases hx
      exact ⟨[], [2], rfl, .inr ⟨2, by simp, rfl⟩, by decide⟩
  obtain ⟨a, b, rfl, hbad, hab⟩ := key
  have hlo : ∀ k, D.los k [.tup (dI a), .tup (dI b)] = true := fun k => by
    rw [los_cons, los_cons, los_nil, lo_tup, lo_tup]
    unfold dI
    rw [los_ints, los_ints]
    rfl
  have hg : ∀ k s, gc k (.tup [.tup (dI a), .tup (dI b)]) s = (.tup [.tup (dI a), .tup (dI b)], s.pop k) := fun k s => gc_tup (hlo k)
  refine ⟨a, b, (s1.pop (st.push (.lst wr)).sz).pop 2, hbad, hab, ?_⟩
  rw [hg] at e
  unfold wr at e
  unfold ls_law_5
  simp [hs]
  rw [e]
  simp [hg, hs]
theorem law6 {st : Sto} {a b : List Int} (hbad : (∃ i ∈ a, badS i = true) ∨ (∃ i ∈ b, badR i = true)) (hab : a.length + b.length < 9) (o2 o3 o4 : Option D) :
    ∃ s, ls_law_6 0 [none, some (.ref 1), o2, o3, o4, some (.tup [.tup (dI a), .tup (dI b)]), none, none] st = .rt (.bl true) s := by
  obtain ⟨s, e⟩ := boxes_bad hbad hab st
  refine ⟨s, ?_⟩
  unfold ls_law_6 sTryB
  simp [show L2.atI [D.tup (dI a), D.tup (dI b)] 0 = some (.tup (dI a)) from rfl, show L2.atI [D.tup (dI a), D.tup (dI b)] 1 = some (.tup (dI b)) from rfl, e]
theorem dr0 (ns : List Int) : Dr ns (sto0 ns) := ⟨rfl, rfl, 0, 0, 1, by decide, by decide, rfl⟩
theorem main (ns : List Int) (_ : ns.length ≤ 63) : ∃ s, lawS 0 (env0 6) (sto0 ns) = .rt (.bl true) s := by
  obtain ⟨ss, s1, a1, a2, a3, a4, e1⟩ := law1 (dr0 ns) rfl
  obtain ⟨rs, s2, b1, b2, b3, b4, e2⟩ := law2 a3 a4 (some (.tup (dI ss)))
  have hl : ss.length + rs.length < 9 := by omega
  have e3 := law3 (st := s2) b4 hl
  obtain ⟨s4, d1, d2, e4⟩ := law4 (st := s2) (ss := ss) (rs := rs) (fun x hx => by
    have := a1 x hx
    unfold badS
    rw [decide_eq_false]
    omega) b1 hl
  obtain ⟨x, y, s5, f1, f2, e5⟩ := law5 (d1 ns b3) (d2.trans b4) (some (.tup (dI ss))) (some (.tup (dI rs))) (some (.int (bestN ss rs)))
  obtain ⟨s6, e6⟩ := law6 (st := s5) f1 f2 (some (.tup (dI ss))) (some (.tup (dI rs))) (some (.int (bestN ss rs)))
  refine ⟨s6, ?_⟩
  unfold lawS
  rw [show env0 6 = [none, some (.ref 1), none, none, none, none, none, none] from rfl]
  rw [sSeq_eq, e1, seq_nx, sSeq_eq, e2, seq_nx, sSeq_eq, e3, seq_nx, sSeq_eq, e4, seq_nx, sSeq_eq, e5, seq_nx, e6]
end DL
end S_K62x
section S_K62p
set_option Elab.async false
set_option linter.all false
set_option maxRecDepth 100000
set_option autoImplicit false
namespace DL
open PySem PySem.Spec PyProof.Rows L2 L2H
set_option maxHeartbeats 2000000
def topS (i : Nat) : Stmt := PySem.Challenge.pw_movesworth_k62_whole_strings_and_rings_o.main.body.getD i (.Pass ⟨0, 0, 0, 0⟩)
structure Bz (mg : PySem.Str → Option Value) : Prop where
  z_any : mg "any" = none
  z_bool : mg "bool" = none
  z_enumerate : mg "enumerate" = none
  z_int : mg "int" = none
  z_isinstance : mg "isinstance" = none
  z_len : mg "len" = none
  z_list : mg "list" = none
  z_max : mg "max" = none
  z_min : mg "min" = none
  z_range : mg "range" = none
  z_sorted : mg "sorted" = none
  z_str : mg "str" = none
  z_tuple : mg "tuple" = none
abbrev st_handed : Stmt := topS 6
abbrev nm_handed : List PySem.Str := ["size", "kept", "rest", "take"]
abbrev ps_handed : List PySem.Str := ["size", "kept", "rest"]
theorem sc_handed : FnScope nm_handed ps_handed (defScope st_handed) := ⟨rfl, rfl, rfl, by decide +kernel, rfl, by decide +kernel, by decide +kernel⟩
theorem ok_handed {P : Program} {w : World} {K : PySem.W.Frag} {mg : PySem.Str → Option Value} {base : Heap} {cl : Cls} (Z : Bz mg) (D_handed : DefIs P K mg "handed" st_handed ps_handed)   : Callee P w K mg base cl 1 "handed" ps_handed d_handed := by
    refine callee_of (N := nm_handed) D_handed sc_handed fun f cdv A outer s H E hr => ?_
    exact (pds_cons (pds_set1 sc_handed.nd rfl (Or.inl rfl) (pd_op op_sub m_sub (pd_un un_neg m_neg (pd_var (pv 0))) (pd_var (pv 2))))
  (pds_cons (pds_if (pdt_w (pdw_and (pdt_cmp op_lt m_lt (pd_var (pv 0)) pd_int) (pdw_and1 (pdt_cmp (op_eqD (ru65 hr)) m_eq (pd_var (pv 1)) pd_int)))) (pds_one (pds_ret (pd_var (pv 3)))) pds_nil)
  (pds_one (pds_ret (pd_callB (call_minA rfl) m_min rfl Z.z_min (by decide +kernel) (pda_cons (pd_var (pv 3)) (pda_cons (pd_op op_addA m_add (pd_op op_addA m_add (pd_un un_neg m_neg (pd_op op_sub m_sub (pd_var (pv 0)) (pd_var (pv 1)))) (pd_var (pv 1))) (pd_var (pv 2))) pda_nil)))))))
abbrev st_open_best : Stmt := topS 5
abbrev nm_open_best : List PySem.Str := ["strings", "rings", "known", "key", "worths", "k", "size", "rest"]
abbrev ps_open_best : List PySem.Str := ["strings", "rings", "known"]
theorem sc_open_best : FnScope nm_open_best ps_open_best (defScope st_open_best) := ⟨rfl, rfl, rfl, by decide +kernel, rfl, by decide +kernel, by decide +kernel⟩
theorem ok_open_best {P : Program} {w : World} {K : PySem.W.Frag} {mg : PySem.Str → Option Value} {base : Heap} {cl : Cls} (Z : Bz mg) (D_open_best : DefIs P K mg "open_best" st_open_best ps_open_best)  (C_handed : Callee P w K mg base cl 1 "handed" ["size", "kept", "rest"] d_handed) : ∀ k : Nat, Callee P w K mg base cl (1 + k) "open_best" ps_open_best (d_open_best k)
  | 0 => callee_no D_open_best
  | k + 1 => by
    have C_open_best := ok_open_best (w := w) (base := base) (cl := cl) Z D_open_best  C_handed k
    refine callee_of (N := nm_open_best) D_open_best sc_open_best fun f cdv A outer s H E hr => ?_
    exact (pds_cons (pds_set1 sc_open_best.nd rfl (Or.inl rfl) (pd_tup (pda_cons (pd_var (pv 0)) (pda_cons (pd_var (pv 1)) pda_nil))))
  (pds_cons (pds_if (pdt_cmp (op_notInA (ru1 hr)) m_notin (pd_var (pv 3)) (pd_var (pv 2))) (pds_cons (pds_set1 sc_open_best.nd rfl (Or.inl rfl) (pd_lst pda_nil))
  (pds_cons (pds_for (passes_of rfl) rfl (pdi_enum rfl Z.z_enumerate (pda_cons (pd_var (pv 0)) pda_nil)) (pdg_tup rfl (pdgs_cons (pdg_n sc_open_best.nd rfl (Or.inl rfl)) (pdgs_cons (pdg_n sc_open_best.nd rfl (Or.inl rfl)) pdgs_nil))) (pds_cons (pds_set1 sc_open_best.nd rfl (Or.inl rfl) (pd_call C_open_best hr rfl (L2N.takes_of rfl rfl rfl rfl) (pda_cons (pd_op op_addA m_add (pd_sl (pd_var (pv 0)) pdp_no (pdp_so (pd_var (pv 5)))) (pd_sl (pd_var (pv 0)) (pdp_so (pd_op op_addA m_add (pd_var (pv 5)) pd_int)) pdp_no)) (pda_cons (pd_var (pv 1)) (pda_cons (pd_var (pv 2)) pda_nil)))))
  (pds_one (pds_expr (pd_mt .lst PySem.F.plainAttrs_list PySem.F.slot_list_append PySem.F.type_list_append mt_append mm_append (pd_var (pv 4)) (pda_cons (pd_call C_handed (hr.mono (j := 1) (k := 1 + k) (by omega)) rfl (L2N.takes_of rfl rfl rfl rfl) (pda_cons (pd_var (pv 6)) (pda_cons pd_int (pda_cons (pd_var (pv 7)) pda_nil)))) pda_nil))))))
  (pds_cons (pds_for (passes_of rfl) rfl (pdi_enum rfl Z.z_enumerate (pda_cons (pd_var (pv 1)) pda_nil)) (pdg_tup rfl (pdgs_cons (pdg_n sc_open_best.nd rfl (Or.inl rfl)) (pdgs_cons (pdg_n sc_open_best.nd rfl (Or.inl rfl)) pdgs_nil))) (pds_cons (pds_set1 sc_open_best.nd rfl (Or.inl rfl) (pd_call C_open_best hr rfl (L2N.takes_of rfl rfl rfl rfl) (pda_cons (pd_var (pv 0)) (pda_cons (pd_op op_addA m_add (pd_sl (pd_var (pv 1)) pdp_no (pdp_so (pd_var (pv 5)))) (pd_sl (pd_var (pv 1)) (pdp_so (pd_op op_addA m_add (pd_var (pv 5)) pd_int)) pdp_no)) (pda_cons (pd_var (pv 2)) pda_nil)))))
  (pds_one (pds_expr (pd_mt .lst PySem.F.plainAttrs_list PySem.F.slot_list_append PySem.F.type_list_append mt_append mm_append (pd_var (pv 4)) (pda_cons (pd_call C_handed (hr.mono (j := 1) (k := 1 + k) (by omega)) rfl (L2N.takes_of rfl rfl rfl rfl) (pda_cons (pd_var (pv 6)) (pda_cons pd_int (pda_cons (pd_var (pv 7)) pda_nil)))) pda_nil))))))
  (pds_one (pds_put (ru1 hr) (pd_var (pv 2)) (pd_var (pv 3)) (pd_if (pdt_cmp op_gt m_gt (pd_callB call_lenA m_len rfl Z.z_len (by decide +kernel) (pda_cons (pd_var (pv 4)) pda_nil)) pd_int) (pd_callB (call_maxA rfl) m_max rfl Z.z_max (by decide +kernel) (pda_cons (pd_var (pv 4)) pda_nil)) pd_int)))))) pds_nil)
  (pds_one (pds_ret (pd_ix (ru1 hr) (pd_var (pv 2)) (pd_var (pv 3)))))))
abbrev st_boxes_best : Stmt := topS 4
abbrev nm_boxes_best : List PySem.Str := ["strings", "rings", "one"]
abbrev ps_boxes_best : List PySem.Str := ["strings", "rings"]
theorem sc_boxes_best : FnScope nm_boxes_best ps_boxes_best (defScope st_boxes_best) := ⟨rfl, rfl, rfl, by decide +kernel, rfl, by decide +kernel, by decide +kernel⟩
theorem ok_boxes_best {P : Program} {w : World} {K : PySem.W.Frag} {mg : PySem.Str → Option Value} {base : Heap} {cl : Cls} (Z : Bz mg) (D_boxes_best : DefIs P K mg "boxes_best" st_boxes_best ps_boxes_best) {C_Refused : Addr} (R_Refused : RefIs P w K mg base "Refused" C_Refused) (h_Refused : cl 1 = some (.ref C_Refused)) (C_open_best : Callee P w K mg base cl 41 "open_best" ["strings", "rings", "known"] (d_open_best 40)) : Callee P w K mg base cl 42 "boxes_best" ps_boxes_best d_boxes_best := by
    refine callee_of (N := nm_boxes_best) D_boxes_best sc_boxes_best fun f cdv A outer s H E hr => ?_
    exact (pds_cons (pds_if (pdt_w (pdw_or (pdt_val (pd_callB (cr_any rfl) m_any rfl Z.z_any (by decide +kernel) (pda_cons (pd_lc (own := [("one", 2)]) rfl sc_boxes_best.nd (pdi_seq (pd_var (pv 0))) (blkOk_by (own := [("one", 2)]) (N := nm_boxes_best) (sc := defScope st_boxes_best) (by decide +kernel)) (by decide) (fun _ _ _ _ _ => (pdg_n sc_boxes_best.nd rfl (Or.inl rfl))) (fun _ _ _ _ _ => pdts_nil) (fun _ _ _ _ _ => (pd_cmp op_lt m_lt (pd_var (pv 2)) pd_int))) pda_nil))) (pdw_or1 (pdt_val (pd_callB (cr_any rfl) m_any rfl Z.z_any (by decide +kernel) (pda_cons (pd_lc (own := [("one", 2)]) rfl sc_boxes_best.nd (pdi_seq (pd_var (pv 1))) (blkOk_by (own := [("one", 2)]) (N := nm_boxes_best) (sc := defScope st_boxes_best) (by decide +kernel)) (by decide) (fun _ _ _ _ _ => (pdg_n sc_boxes_best.nd rfl (Or.inl rfl))) (fun _ _ _ _ _ => pdts_nil) (fun _ _ _ _ _ => (pd_or (pd_cmp op_lt m_lt (pd_var (pv 2)) pd_int) (pd_one (pd_cmp (op_eqD (ru65 hr)) m_eq (pd_op op_modN m_mod (pd_var (pv 2)) pd_int) pd_int))))) pda_nil)))))) (pds_one (pds_raiseW R_Refused h_Refused (hr.mono (j := 2) (k := 41) (by decide)) rfl rfl (L2N.takes_of rfl rfl rfl rfl) pd_str)) pds_nil)
  (pds_one (pds_ret (pd_call C_open_best (hr.mono (j := 41) (k := 41) (by decide)) rfl (L2N.takes_of rfl rfl rfl rfl) (pda_cons (pd_callTy call_tuple_of m_tuple rfl Z.z_tuple (by decide +kernel) (pda_cons (pd_callB (call_sortedSt rfl (ru hr)) m_sorted rfl Z.z_sorted (by decide +kernel) (pda_cons (pd_var (pv 0)) pda_nil)) pda_nil)) (pda_cons (pd_callTy call_tuple_of m_tuple rfl Z.z_tuple (by decide +kernel) (pda_cons (pd_callB (call_sortedSt rfl (ru hr)) m_sorted rfl Z.z_sorted (by decide +kernel) (pda_cons (pd_var (pv 1)) pda_nil)) pda_nil)) (pda_cons pd_dg0 pda_nil)))))))
abbrev st__law_draws : Stmt := topS 8
abbrev nm__law_draws : List PySem.Str := ["script"]
abbrev ps__law_draws : List PySem.Str := ["script"]
theorem sc__law_draws : FnScope nm__law_draws ps__law_draws (defScope st__law_draws) := ⟨rfl, rfl, rfl, by decide +kernel, rfl, by decide +kernel, by decide +kernel⟩
theorem ok__law_draws {P : Program} {w : World} {K : PySem.W.Frag} {mg : PySem.Str → Option Value} {base : Heap} {cl : Cls} (Z : Bz mg) (D__law_draws : DefIs P K mg "_law_draws" st__law_draws ps__law_draws)   : Callee P w K mg base cl 1 "_law_draws" ps__law_draws d__law_draws := by
    refine callee_of (N := nm__law_draws) D__law_draws sc__law_draws fun f cdv A outer s H E hr => ?_
    exact (pds_one (pds_ret (pd_lst (pda_cons (pd_callTy (call_listA rfl) m_list rfl Z.z_list (by decide +kernel) (pda_cons (pd_var (pv 0)) pda_nil)) (pda_cons pd_int (pda_cons pd_int (pda_cons pd_int pda_nil)))))))
abbrev st__law_draw : Stmt := topS 9
abbrev nm__law_draw : List PySem.Str := ["draws", "limit", "cell", "value"]
abbrev ps__law_draw : List PySem.Str := ["draws", "limit"]
theorem sc__law_draw : FnScope nm__law_draw ps__law_draw (defScope st__law_draw) := ⟨rfl, rfl, rfl, by decide +kernel, rfl, by decide +kernel, by decide +kernel⟩
theorem ok__law_draw {P : Program} {w : World} {K : PySem.W.Frag} {mg : PySem.Str → Option Value} {base : Heap} {cl : Cls} (Z : Bz mg) (D__law_draw : DefIs P K mg "_law_draw" st__law_draw ps__law_draw)   : Callee P w K mg base cl 1 "_law_draw" ps__law_draw d__law_draw := by
    refine callee_of (N := nm__law_draw) D__law_draw sc__law_draw fun f cdv A outer s H E hr => ?_
    exact (pds_cons (pds_if (pdt_w (pdw_and (pdt_cmp (op_eqD (ru65 hr)) m_eq (pd_ix (ru1 hr) (pd_var (pv 0)) pd_int) pd_int) (pdw_and1 (pdt_cmp op_lt m_lt (pd_ix (ru1 hr) (pd_var (pv 0)) pd_int) (pd_callB call_lenA m_len rfl Z.z_len (by decide +kernel) (pda_cons (pd_ix (ru1 hr) (pd_var (pv 0)) pd_int) pda_nil)))))) (pds_cons (pds_set1 sc__law_draw.nd rfl (Or.inl rfl) (pd_ix (ru1 hr) (pd_ix (ru1 hr) (pd_var (pv 0)) pd_int) (pd_ix (ru1 hr) (pd_var (pv 0)) pd_int)))
  (pds_cons (pds_put (ru1 hr) (pd_var (pv 0)) pd_int (pd_op op_addA m_add (pd_ix (ru1 hr) (pd_var (pv 0)) pd_int) pd_int))
  (pds_cons (pds_if (pdt_cmp op_ge m_ge (pd_var (pv 2)) (pd_op op_pow m_pow pd_int pd_int)) (pds_one (pds_put (ru1 hr) (pd_var (pv 0)) pd_int (pd_var (pv 2)))) pds_nil)
  (pds_one (pds_put (ru1 hr) (pd_var (pv 0)) pd_int (pd_op op_modN m_mod (pd_callTy call_int1 m_int rfl Z.z_int (by decide +kernel) (pda_cons (pd_op op_addA m_add (pd_op op_addA m_add (pd_op op_mulA m_mul (pd_ix (ru1 hr) (pd_var (pv 0)) pd_int) pd_int) (pd_var (pv 2))) pd_int) pda_nil)) pd_int)))))) pds_nil)
  (pds_cons (pds_if (pdt_cmp op_gt m_gt (pd_ix (ru1 hr) (pd_var (pv 0)) pd_int) pd_int) (pds_cons (pds_set1 sc__law_draw.nd rfl (Or.inl rfl) (pd_op op_modN m_mod (pd_callTy call_int1 m_int rfl Z.z_int (by decide +kernel) (pda_cons (pd_ix (ru1 hr) (pd_var (pv 0)) pd_int) pda_nil)) (pd_var (pv 1))))
  (pds_cons (pds_put (ru1 hr) (pd_var (pv 0)) pd_int (pd_op op_fdivN m_div (pd_ix (ru1 hr) (pd_var (pv 0)) pd_int) (pd_var (pv 1))))
  (pds_one (pds_ret (pd_var (pv 3)))))) pds_nil)
  (pds_cons (pds_put (ru1 hr) (pd_var (pv 0)) pd_int (pd_op op_modN m_mod (pd_callTy call_int1 m_int rfl Z.z_int (by decide +kernel) (pda_cons (pd_op op_addA m_add (pd_op op_mulA m_mul (pd_ix (ru1 hr) (pd_var (pv 0)) pd_int) pd_int) pd_int) pda_nil)) pd_int))
  (pds_one (pds_ret (pd_op op_modN m_mod (pd_callTy call_int1 m_int rfl Z.z_int (by decide +kernel) (pda_cons (pd_op op_fdivN m_div (pd_ix (ru1 hr) (pd_var (pv 0)) pd_int) pd_int) pda_nil)) (pd_var (pv 1))))))))
abbrev st__law_pick : Stmt := topS 10
abbrev nm__law_pick : List PySem.Str := ["draws", "row"]
abbrev ps__law_pick : List PySem.Str := ["draws", "row"]
theorem sc__law_pick : FnScope nm__law_pick ps__law_pick (defScope st__law_pick) := ⟨rfl, rfl, rfl, by decide +kernel, rfl, by decide +kernel, by decide +kernel⟩
theorem ok__law_pick {P : Program} {w : World} {K : PySem.W.Frag} {mg : PySem.Str → Option Value} {base : Heap} {cl : Cls} (Z : Bz mg) (D__law_pick : DefIs P K mg "_law_pick" st__law_pick ps__law_pick)  (C__law_draw : Callee P w K mg base cl 1 "_law_draw" ["draws", "limit"] d__law_draw) : Callee P w K mg base cl 2 "_law_pick" ps__law_pick d__law_pick := by
    refine callee_of (N := nm__law_pick) D__law_pick sc__law_pick fun f cdv A outer s H E hr => ?_
    exact (pds_one (pds_ret (pd_ix (ru1 hr) (pd_var (pv 1)) (pd_call C__law_draw (hr.mono (j := 1) (k := 1) (by decide)) rfl (L2N.takes_of rfl rfl rfl rfl) (pda_cons (pd_var (pv 0)) (pda_cons (pd_callB call_lenA m_len rfl Z.z_len (by decide +kernel) (pda_cons (pd_var (pv 1)) pda_nil)) pda_nil))))))
abbrev st__law_same : Stmt := topS 11
abbrev nm__law_same : List PySem.Str := ["actual", "expected", "k"]
abbrev ps__law_same : List PySem.Str := ["actual", "expected"]
theorem sc__law_same : FnScope nm__law_same ps__law_same (defScope st__law_same) := ⟨rfl, rfl, rfl, by decide +kernel, rfl, by decide +kernel, by decide +kernel⟩
theorem ok__law_same {P : Program} {w : World} {K : PySem.W.Frag} {mg : PySem.Str → Option Value} {base : Heap} {cl : Cls} (Z : Bz mg) (D__law_same : DefIs P K mg "_law_same" st__law_same ps__law_same)   : ∀ k : Nat, Callee P w K mg base cl (0 + k) "_law_same" ps__law_same (d__law_same k)
  | 0 => callee_no D__law_same
  | k + 1 => by
    have C__law_same := ok__law_same (w := w) (base := base) (cl := cl) Z D__law_same   k
    refine callee_of (N := nm__law_same) D__law_same sc__law_same fun f cdv A outer s H E hr => ?_
    exact (pds_cons (pds_if (pdt_w (pdw_or (pdt_val (pd_isi (t := .tup) rfl Z.z_isinstance (pd_var (pv 1)) (pe_bltn rfl Z.z_tuple (by decide +kernel) rfl))) (pdw_or1 (pdt_val (pd_isi (t := .lst) rfl Z.z_isinstance (pd_var (pv 1)) (pe_bltn rfl Z.z_list (by decide +kernel) rfl)))))) (pds_cons (pds_if (pdt_w (pdw_or (pdt_cmp (op_neD (ru65 hr)) m_ne (pd_isi (t := .tup) rfl Z.z_isinstance (pd_var (pv 0)) (pe_bltn rfl Z.z_tuple (by decide +kernel) rfl)) (pd_isi (t := .tup) rfl Z.z_isinstance (pd_var (pv 1)) (pe_bltn rfl Z.z_tuple (by decide +kernel) rfl))) (pdw_or1 (pdt_cmp (op_neD (ru65 hr)) m_ne (pd_isi (t := .lst) rfl Z.z_isinstance (pd_var (pv 0)) (pe_bltn rfl Z.z_list (by decide +kernel) rfl)) (pd_isi (t := .lst) rfl Z.z_isinstance (pd_var (pv 1)) (pe_bltn rfl Z.z_list (by decide +kernel) rfl)))))) (pds_one (pds_ret pd_bl)) pds_nil)
  (pds_cons (pds_if (pdt_cmp (op_neD (ru65 hr)) m_ne (pd_callB call_lenA m_len rfl Z.z_len (by decide +kernel) (pda_cons (pd_var (pv 0)) pda_nil)) (pd_callB call_lenA m_len rfl Z.z_len (by decide +kernel) (pda_cons (pd_var (pv 1)) pda_nil))) (pds_one (pds_ret pd_bl)) pds_nil)
  (pds_one (pds_ret (pd_cmp (op_eqD (ru65 hr)) m_eq (pd_callB call_lenA m_len rfl Z.z_len (by decide +kernel) (pda_cons (pd_lc (own := [("k", 2)]) rfl sc__law_same.nd (pdi_range1 rfl Z.z_range (pda_cons (pd_callB call_lenA m_len rfl Z.z_len (by decide +kernel) (pda_cons (pd_var (pv 1)) pda_nil)) pda_nil)) (blkOk_by (own := [("k", 2)]) (N := nm__law_same) (sc := defScope st__law_same) (by decide +kernel)) (by decide) (fun _ _ _ _ _ => (pdg_n sc__law_same.nd rfl (Or.inl rfl))) (fun _ _ _ _ _ => (pdts_one (pdt_not (pdt_val (pd_call C__law_same hr rfl takes0 (pda_cons (pd_ix (ru1 hr) (pd_var (pv 0)) (pd_var (pv 2))) (pda_cons (pd_ix (ru1 hr) (pd_var (pv 1)) (pd_var (pv 2))) pda_nil))))))) (fun _ _ _ _ _ => (pd_var (pv 2)))) pda_nil)) pd_int))))) pds_nil)
  (pds_cons (pds_if (pdt_w (pdw_or (pdt_val (pd_isi (t := .bool) rfl Z.z_isinstance (pd_var (pv 1)) (pe_bltn rfl Z.z_bool (by decide +kernel) rfl))) (pdw_or1 (pdt_val (pd_isi (t := .bool) rfl Z.z_isinstance (pd_var (pv 0)) (pe_bltn rfl Z.z_bool (by decide +kernel) rfl)))))) (pds_one (pds_ret (pd_and (pd_isi (t := .bool) rfl Z.z_isinstance (pd_var (pv 1)) (pe_bltn rfl Z.z_bool (by decide +kernel) rfl)) (pd_and (pd_isi (t := .bool) rfl Z.z_isinstance (pd_var (pv 0)) (pe_bltn rfl Z.z_bool (by decide +kernel) rfl)) (pd_one (pd_cmp (op_eqD (ru65 hr)) m_eq (pd_var (pv 0)) (pd_var (pv 1)))))))) pds_nil)
  (pds_cons (pds_if (pdt_w (pdw_or (pdt_cmp op_isA m_is (pd_var (pv 1)) pd_non) (pdw_or1 (pdt_cmp op_isA m_is (pd_var (pv 0)) pd_non)))) (pds_one (pds_ret (pd_and (pd_cmp op_isA m_is (pd_var (pv 1)) pd_non) (pd_one (pd_cmp op_isA m_is (pd_var (pv 0)) pd_non))))) pds_nil)
  (pds_cons (pds_if (pdt_w (pdw_or (pdt_val (pd_isi (t := .str) rfl Z.z_isinstance (pd_var (pv 1)) (pe_bltn rfl Z.z_str (by decide +kernel) rfl))) (pdw_or1 (pdt_val (pd_isi (t := .str) rfl Z.z_isinstance (pd_var (pv 0)) (pe_bltn rfl Z.z_str (by decide +kernel) rfl)))))) (pds_one (pds_ret (pd_and (pd_isi (t := .str) rfl Z.z_isinstance (pd_var (pv 1)) (pe_bltn rfl Z.z_str (by decide +kernel) rfl)) (pd_and (pd_isi (t := .str) rfl Z.z_isinstance (pd_var (pv 0)) (pe_bltn rfl Z.z_str (by decide +kernel) rfl)) (pd_one (pd_cmp (op_eqD (ru65 hr)) m_eq (pd_var (pv 0)) (pd_var (pv 1)))))))) pds_nil)
  (pds_one (pds_ret (pd_and (pd_isi (t := .int) rfl Z.z_isinstance (pd_var (pv 0)) (pe_bltn rfl Z.z_int (by decide +kernel) rfl)) (pd_and (pd_isi (t := .int) rfl Z.z_isinstance (pd_var (pv 1)) (pe_bltn rfl Z.z_int (by decide +kernel) rfl)) (pd_one (pd_cmp (op_eqD (ru65 hr)) m_eq (pd_var (pv 0)) (pd_var (pv 1))))))))))))
abbrev st__law_best : Stmt := topS 12
abbrev nm__law_best : List PySem.Str := ["strings", "rings", "known", "key", "ends", "k", "rest", "ways"]
abbrev ps__law_best : List PySem.Str := ["strings", "rings", "known"]
theorem sc__law_best : FnScope nm__law_best ps__law_best (defScope st__law_best) := ⟨rfl, rfl, rfl, by decide +kernel, rfl, by decide +kernel, by decide +kernel⟩
theorem ok__law_best {P : Program} {w : World} {K : PySem.W.Frag} {mg : PySem.Str → Option Value} {base : Heap} {cl : Cls} (Z : Bz mg) (D__law_best : DefIs P K mg "_law_best" st__law_best ps__law_best)   : ∀ k : Nat, Callee P w K mg base cl (0 + k) "_law_best" ps__law_best (d__law_best k)
  | 0 => callee_no D__law_best
  | k + 1 => by
    have C__law_best := ok__law_best (w := w) (base := base) (cl := cl) Z D__law_best   k
    refine callee_of (N := nm__law_best) D__law_best sc__law_best fun f cdv A outer s H E hr => ?_
    exact (pds_cons (pds_set1 sc__law_best.nd rfl (Or.inl rfl) (pd_tup (pda_cons (pd_callTy call_tuple_of m_tuple rfl Z.z_tuple (by decide +kernel) (pda_cons (pd_callB (call_sortedSt rfl (ru hr)) m_sorted rfl Z.z_sorted (by decide +kernel) (pda_cons (pd_var (pv 0)) pda_nil)) pda_nil)) (pda_cons (pd_callTy call_tuple_of m_tuple rfl Z.z_tuple (by decide +kernel) (pda_cons (pd_callB (call_sortedSt rfl (ru hr)) m_sorted rfl Z.z_sorted (by decide +kernel) (pda_cons (pd_var (pv 1)) pda_nil)) pda_nil)) pda_nil))))
  (pds_cons (pds_if (pdt_cmp (op_notInA (ru1 hr)) m_notin (pd_var (pv 3)) (pd_var (pv 2))) (pds_cons (pds_set1 sc__law_best.nd rfl (Or.inl rfl) (pd_lst pda_nil))
  (pds_cons (pds_for (passes_of rfl) rfl (pdi_range1 rfl Z.z_range (pda_cons (pd_callB call_lenA m_len rfl Z.z_len (by decide +kernel) (pda_cons (pd_var (pv 0)) pda_nil)) pda_nil)) (pdg_n sc__law_best.nd rfl (Or.inl rfl)) (pds_cons (pds_set1 sc__law_best.nd rfl (Or.inl rfl) (pd_call C__law_best hr rfl (L2N.takes_of rfl rfl rfl rfl) (pda_cons (pd_op op_addA m_add (pd_sl (pd_var (pv 0)) pdp_no (pdp_so (pd_var (pv 5)))) (pd_sl (pd_var (pv 0)) (pdp_so (pd_op op_addA m_add (pd_var (pv 5)) pd_int)) pdp_no)) (pda_cons (pd_var (pv 1)) (pda_cons (pd_var (pv 2)) pda_nil)))))
  (pds_cons (pds_set1 sc__law_best.nd rfl (Or.inl rfl) (pd_op op_addA m_add (pd_lst (pda_cons (pd_op op_sub m_sub (pd_un un_neg m_neg (pd_ix (ru1 hr) (pd_var (pv 0)) (pd_var (pv 5)))) (pd_var (pv 6))) pda_nil)) (pd_if (pdt_cmp op_gt m_gt (pd_ix (ru1 hr) (pd_var (pv 0)) (pd_var (pv 5))) pd_int) (pd_lst (pda_cons (pd_op op_addA m_add (pd_op op_addA m_add (pd_un un_neg m_neg (pd_op op_sub m_sub (pd_ix (ru1 hr) (pd_var (pv 0)) (pd_var (pv 5))) pd_int)) pd_int) (pd_var (pv 6))) pda_nil)) (pd_lst pda_nil))))
  (pds_one (pds_expr (pd_mt .lst PySem.F.plainAttrs_list PySem.F.slot_list_append PySem.F.type_list_append mt_append mm_append (pd_var (pv 4)) (pda_cons (pd_callB (call_minA rfl) m_min rfl Z.z_min (by decide +kernel) (pda_cons (pd_var (pv 7)) pda_nil)) pda_nil)))))))
  (pds_cons (pds_for (passes_of rfl) rfl (pdi_range1 rfl Z.z_range (pda_cons (pd_callB call_lenA m_len rfl Z.z_len (by decide +kernel) (pda_cons (pd_var (pv 1)) pda_nil)) pda_nil)) (pdg_n sc__law_best.nd rfl (Or.inl rfl)) (pds_cons (pds_set1 sc__law_best.nd rfl (Or.inl rfl) (pd_call C__law_best hr rfl (L2N.takes_of rfl rfl rfl rfl) (pda_cons (pd_var (pv 0)) (pda_cons (pd_op op_addA m_add (pd_sl (pd_var (pv 1)) pdp_no (pdp_so (pd_var (pv 5)))) (pd_sl (pd_var (pv 1)) (pdp_so (pd_op op_addA m_add (pd_var (pv 5)) pd_int)) pdp_no)) (pda_cons (pd_var (pv 2)) pda_nil)))))
  (pds_one (pds_expr (pd_mt .lst PySem.F.plainAttrs_list PySem.F.slot_list_append PySem.F.type_list_append mt_append mm_append (pd_var (pv 4)) (pda_cons (pd_callB (call_minA rfl) m_min rfl Z.z_min (by decide +kernel) (pda_cons (pd_op op_sub m_sub (pd_un un_neg m_neg (pd_ix (ru1 hr) (pd_var (pv 1)) (pd_var (pv 5)))) (pd_var (pv 6))) (pda_cons (pd_op op_addA m_add (pd_op op_addA m_add (pd_un un_neg m_neg (pd_op op_sub m_sub (pd_ix (ru1 hr) (pd_var (pv 1)) (pd_var (pv 5))) pd_int)) pd_int) (pd_var (pv 6))) pda_nil))) pda_nil))))))
  (pds_one (pds_put (ru1 hr) (pd_var (pv 2)) (pd_var (pv 3)) (pd_if (pdt_cmp op_gt m_gt (pd_callB call_lenA m_len rfl Z.z_len (by decide +kernel) (pda_cons (pd_var (pv 4)) pda_nil)) pd_int) (pd_callB (call_maxA rfl) m_max rfl Z.z_max (by decide +kernel) (pda_cons (pd_var (pv 4)) pda_nil)) pd_int)))))) pds_nil)
  (pds_one (pds_ret (pd_ix (ru1 hr) (pd_var (pv 2)) (pd_var (pv 3)))))))
theorem okH__law_same {P : Program} {w : World} {K : PySem.W.Frag} {mg : PySem.Str → Option Value} {base : Heap} {cl : Cls} (Z : Bz mg) (D__law_same : DefIs P K mg "_law_same" st__law_same ps__law_same) : CalleeH P w K mg base cl 3 "_law_same" ps__law_same dH__law_same := by
  refine callee_ofH (N := nm__law_same) D__law_same sc__law_same fun f cdv A outer s H E p hot hr => ?_
  have hu : (A.deeper (envOfC "_law_same" (defScope st__law_same) s.heap.objs.size f cdv)).units + 64 < cLine := by
    have := hr.un
    omega
  exact (pds_cons (pds_if (pdt_w (pdw_or (pdt_val (pd_isi (t := .tup) rfl Z.z_isinstance (pd_var (pv 1)) (pe_bltn rfl Z.z_tuple (by decide +kernel) rfl))) (pdw_or1 (pdt_val (pd_isi (t := .lst) rfl Z.z_isinstance (pd_var (pv 1)) (pe_bltn rfl Z.z_list (by decide +kernel) rfl)))))) pds_any pds_nil)
  (pds_cons (pds_if (pdt_w (pdw_or (pdt_val (pd_isi (t := .bool) rfl Z.z_isinstance (pd_var (pv 1)) (pe_bltn rfl Z.z_bool (by decide +kernel) rfl))) (pdw_or1 (pdt_val (pd_isi (t := .bool) rfl Z.z_isinstance (pd_var (pv 0)) (pe_bltn rfl Z.z_bool (by decide +kernel) rfl)))))) pds_any pds_nil)
  (pds_cons (pds_if (pdt_w (pdw_or (pdt_cmp op_isA m_is (pd_var (pv 1)) pd_non) (pdw_or1 (pdt_cmp op_isA m_is (pd_var (pv 0)) pd_non)))) pds_any pds_nil)
  (pds_cons (pds_if (pdt_w (pdw_or (pdt_val (pd_isi (t := .str) rfl Z.z_isinstance (pd_var (pv 1)) (pe_bltn rfl Z.z_str (by decide +kernel) rfl))) (pdw_or1 (pdt_val (pd_isi (t := .str) rfl Z.z_isinstance (pd_var (pv 0)) (pe_bltn rfl Z.z_str (by decide +kernel) rfl)))))) (pds_one (pds_ret (pd_and (pd_isi (t := .str) rfl Z.z_isinstance (pd_var (pv 1)) (pe_bltn rfl Z.z_str (by decide +kernel) rfl)) (pd_and (pd_isi (t := .str) rfl Z.z_isinstance (pd_var (pv 0)) (pe_bltn rfl Z.z_str (by decide +kernel) rfl)) (pd_one (pd_cmp op_eq m_eqS (pd_var (pv 0)) (pd_var (pv 1)))))))) pds_nil)
  pds_any))))

theorem okD__law_draws {P : Program} {w : World} {K : PySem.W.Frag} {mg : PySem.Str → Option Value} {base : Heap} {f : Addr} {fd : FuncData} (Z : Bz mg) (F : Fun K "_law_draws" "_law_draws" st__law_draws f fd) : FnOk P w K mg base (L2N.CX P w) 1 f fd ["script"] (spDraws K) := by
  obtain ⟨oc, od, kV, doc, pm, an, cdv0, ct, osl, rfl, lk, hcd⟩ := F.ex
  refine fn_of lk hcd sc__law_draws (fun vs H Q E h => ?_) (fun A outer s H vs Q E hr h => ?_)
  · obtain ⟨a, ns, rfl, _⟩ := h
    rfl
  · obtain ⟨a, ns, rfl, hS, h63, q⟩ := h
    refine ⟨_, pss_one (ps_ret (pe_lst (pa_cons (pe_callTy call_list_of rfl Z.z_list (by decide +kernel) (pa_cons (pv 0) pa_nil)) (pa_cons pe_int (pa_cons pe_int (pa_cons pe_int pa_nil)))))), ?_⟩
    exact ⟨_, rfl, a, _, rfl, .inl hS, fun l hl => ⟨by show 4 ≤ sizeLine; rw [sizeLine_eq]; decide, fun p hp => q l p hl hp⟩⟩
abbrev st_law : Stmt := topS 13
abbrev nm_law : List PySem.Str := ["script", "draws", "strings", "rings", "due", "wrong", "e", "k"]
abbrev ps_law : List PySem.Str := ["script"]
theorem sc_law : FnScope nm_law ps_law (defScope st_law) := ⟨rfl, rfl, rfl, by decide +kernel, rfl, by decide +kernel, by decide +kernel⟩
theorem ok_law {P : Program} {w : World} {K : PySem.W.Frag} {mg : PySem.Str → Option Value} {base : Heap} {cl : Cls} (Z : Bz mg) {fL fD : Addr} {fdL fdD : FuncData} (F : Fun K "law" "law" st_law fL fdL) (FD : Fun K "_law_draws" "_law_draws" st__law_draws fD fdD) (bD : Binds K fdD ["script"] []) (mD : mg "_law_draws" = some (.ref fD)) (FH : CalleeH P w K mg base cl 3 "_law_same" ps__law_same dH__law_same) {C_Refused : Addr} (R_Refused : RefIs P w K mg base "Refused" C_Refused) (hcl_Refused : ∀ n v, cl n = some v → PySem.W.exmOne K v (.ref C_Refused) = some (([1] : List Nat).contains n)) (hcs_Refused : ∀ n, ([1] : List Nat).contains n = true → cl n = some (.ref C_Refused)) (X_Refused : XfC K C_Refused) (C__law_best : Callee P w K mg base cl 40 "_law_best" ["strings", "rings", "known"] (d__law_best 40)) (C__law_draw : Callee P w K mg base cl 1 "_law_draw" ["draws", "limit"] d__law_draw) (C__law_pick : Callee P w K mg base cl 2 "_law_pick" ["draws", "row"] d__law_pick) (C__law_same : Callee P w K mg base cl 40 "_law_same" ["actual", "expected"] (d__law_same 40)) (C_boxes_best : Callee P w K mg base cl 42 "boxes_best" ["strings", "rings"] d_boxes_best)
    (main : ∀ ns : List Int, ns.length ≤ 63 → ∃ s, lawS 0 (env0 6) (sto0 ns) = .rt (.bl true) s) : FnOk P w K mg base (L2N.CX P w) 43 fL fdL ["script"] (spLawD K) := by
  have CD := okD__law_draws (P := P) (w := w) (base := base) Z FD
  have kD := FD.kp
  obtain ⟨oc, od, kV, doc, pm, an, cdv0, ct, osl, rfl, lk, hcd⟩ := F.ex
  refine fn_of lk hcd sc_law (fun vs H Q E h => spLaw_len h) (fun A outer s H vs Q E hr h => ?_)
  obtain ⟨a, ns, rfl, hS, h63, q⟩ := h
  have REST : PDSs (cxOf (L2N.CX P w) P w K mg base nm_law "law" (defScope st_law) fL cdv0 A outer s H E) cl (fun c dx _ H => E c dx H) ((defBody st_law).drop 1) lawS := (pds_cons (pds_set1 sc_law.nd rfl (Or.inl rfl) (pd_callTy call_tuple_of m_tuple rfl Z.z_tuple (by decide +kernel) (pda_cons (pd_lc (own := [("k", 7)]) rfl sc_law.nd (pdi_range1 rfl Z.z_range (pda_cons (pd_call C__law_draw (hr.mono (j := 1) (k := 42) (by decide)) rfl (L2N.takes_of rfl rfl rfl rfl) (pda_cons (pd_var (pv 1)) (pda_cons pd_int pda_nil))) pda_nil)) (blkOk_by (own := [("k", 7)]) (N := nm_law) (sc := defScope st_law) (by decide +kernel)) (by decide) (fun _ _ _ _ _ => (pdg_n sc_law.nd rfl (Or.inl rfl))) (fun _ _ _ _ _ => pdts_nil) (fun _ _ _ _ _ => (pd_op op_addA m_add pd_int (pd_call C__law_draw (hr.mono (j := 1) (k := 42) (by decide)) rfl takes0 (pda_cons (pd_var (pv 1)) (pda_cons pd_int pda_nil)))))) pda_nil)))
  (pds_cons (pds_set1 sc_law.nd rfl (Or.inl rfl) (pd_callTy call_tuple_of m_tuple rfl Z.z_tuple (by decide +kernel) (pda_cons (pd_lc (own := [("k", 7)]) rfl sc_law.nd (pdi_range1 rfl Z.z_range (pda_cons (pd_call C__law_draw (hr.mono (j := 1) (k := 42) (by decide)) rfl (L2N.takes_of rfl rfl rfl rfl) (pda_cons (pd_var (pv 1)) (pda_cons pd_int pda_nil))) pda_nil)) (blkOk_by (own := [("k", 7)]) (N := nm_law) (sc := defScope st_law) (by decide +kernel)) (by decide) (fun _ _ _ _ _ => (pdg_n sc_law.nd rfl (Or.inl rfl))) (fun _ _ _ _ _ => pdts_nil) (fun _ _ _ _ _ => (pd_op op_addA m_add pd_int (pd_op op_mulA m_mul pd_int (pd_call C__law_draw (hr.mono (j := 1) (k := 42) (by decide)) rfl takes0 (pda_cons (pd_var (pv 1)) (pda_cons pd_int pda_nil))))))) pda_nil)))
  (pds_cons (pds_set1 sc_law.nd rfl (Or.inl rfl) (pd_call C__law_best (hr.mono (j := 40) (k := 42) (by decide)) rfl (L2N.takes_of rfl rfl rfl rfl) (pda_cons (pd_var (pv 2)) (pda_cons (pd_var (pv 3)) (pda_cons pd_dg0 pda_nil)))))
  (pds_cons (pds_if (pdt_w (pdw_or (pdt_not (pdt_val (pd_call C__law_same (hr.mono (j := 40) (k := 42) (by decide)) rfl (L2N.takes_of rfl rfl rfl rfl) (pda_cons (pd_call C_boxes_best (hr.mono (j := 42) (k := 42) (by decide)) rfl (L2N.takes_of rfl rfl rfl rfl) (pda_cons (pd_var (pv 2)) (pda_cons (pd_var (pv 3)) pda_nil))) (pda_cons (pd_var (pv 4)) pda_nil))))) (pdw_or1 (pdt_cmp (op_neD (ru65 hr)) m_ne (pd_call C_boxes_best (hr.mono (j := 42) (k := 42) (by decide)) rfl (L2N.takes_of rfl rfl rfl rfl) (pda_cons (pd_rev (pd_var (pv 2))) (pda_cons (pd_rev (pd_var (pv 3))) pda_nil))) (pd_var (pv 4)))))) (pds_one (pds_ret pd_bl)) pds_nil)
  (pds_cons (pds_set1 sc_law.nd rfl (Or.inl rfl) (pd_call C__law_pick (hr.mono (j := 2) (k := 42) (by decide)) rfl (L2N.takes_of rfl rfl rfl rfl) (pda_cons (pd_var (pv 1)) (pda_cons (pd_lst (pda_cons (pd_tup (pda_cons (pd_tup (pda_cons pd_int pda_nil)) (pda_cons (pd_tup pda_nil) pda_nil))) (pda_cons (pd_tup (pda_cons (pd_tup pda_nil) (pda_cons (pd_tup (pda_cons pd_int pda_nil)) pda_nil))) (pda_cons (pd_tup (pda_cons (pd_tup pda_nil) (pda_cons (pd_tup (pda_cons pd_int pda_nil)) pda_nil))) pda_nil)))) pda_nil))))
  (pds_one (pds_try_same (cs := [1]) (i := 6) rfl rfl sc_law.nd rfl rfl ⟨rfl, by decide, .inl R_Refused.gC⟩ (L2N.takes_of rfl rfl rfl rfl) (fun W pn xe tk hp => (pds_one (pds_ret (pd_cmp (op_eqD (ru65 hr)) m_eq (pd_call C_boxes_best (hr.mono (j := 42) (k := 42) (by decide)) rfl tk (pda_cons (pd_ix (ru1 hr) (pd_var (pv 5)) pd_int) (pda_cons (pd_ix (ru1 hr) (pd_var (pv 5)) pd_int) pda_nil))) pd_str)))) hcl_Refused hcs_Refused X_Refused R_Refused.noW FH dH_same (hr.mono (j := 3) (k := 42) (by decide)) rfl)))))))
  refine ⟨_, pss_cons (ps_set (i := 1) sc_law.nd rfl (Or.inr rfl) (pe_call CD (hr.mono (j := 1) (k := 42) (by decide)) rfl mD kD bD .nil (fun pins σ H s er s' I c => L2N.passes_call (E := fun _ _ _ => False) (W := W0) takes0 (fun _ _ _ _ h => h.elim) pins σ H s er s' I c) (pa_cons (pv 0) pa_nil))) REST, ?_⟩
  exact ⟨_, rfl, a, ns, rfl, hS, h63, fun p q' hp hq => law_start hp hq (main ns h63) q⟩
abbrev stI_Refused : Stmt := clsDef (topS 2) 0
theorem scI_Refused : FnScope ["self", "word"] ["self", "word"] (defScope stI_Refused) := ⟨rfl, rfl, rfl, by decide +kernel, rfl, by decide +kernel, by decide +kernel⟩
theorem okI_Refused {P : Program} {w : World} {K : PySem.W.Frag} {mg : PySem.Str → Option Value} {base : Heap} {f G : Addr} {fd : FuncData} (F : Fun K "__init__" "Refused.__init__" stI_Refused f fd) (gG : mg "GameError" = some (.ref G)) (rd : PySem.W.readsIn K G (.type "type") = true) (ga : PySem.W.specialIn K (.ref G) "__getattribute__" = some (some (.builtin "type.__getattribute__")))
    (vV : PySem.W.findCls K (.ref G) (.type "type") "__init__" = some (.val (.builtin "ValueError.__init__"))) : FnOk P w K mg base (L2N.CX P w) 1 f fd ["self", "word"] (spInit K) := by
  obtain ⟨oc, od, kV, doc, pm, an, cdv0, ct, osl, rfl, lk, hcd⟩ := F.ex
  refine fn_of lk hcd scI_Refused (fun vs H Q E h => ?_) (fun A outer s H vs Q E hr h => ?_)
  · obtain ⟨a, C, v, rfl, _⟩ := h
    rfl
  · obtain ⟨a, C, v, rfl, T, hno, ha, q⟩ := h
    refine ⟨_, pss_cons (ps_expr (pe_ginit rfl gG rd ga vV (pa_cons (pv 0) (pa_cons (pv 1) pa_nil)))) (pss_one (ps_ost (pv 0) (pv 1))), ?_⟩
    exact ⟨_, rfl, _, rfl, a, C, [v], rfl, by show 1 ≤ 1000; decide, T, ha, _, rfl, _, rfl, a, C, rfl, T, hno, .inl ⟨ha, fun dx n ne => q dx n ne⟩⟩
theorem all_k {l : PySem.W.OpenLaw} {w : World} {K : PySem.W.Frag} {h : Heap} {mg : PySem.Str → Option Value} {fa : Addr} (main : ∀ ns : List Int, ns.length ≤ 63 → ∃ s, lawS 0 (env0 6) (sto0 ns) = .rt (.bl true) s) (X : K.In h) (G : h.Ns mainGlobals mg) (hfa : mg "law" = some (.ref fa))
    {f_handed : Addr} {od_handed an_handed : Option Addr} {sl_handed : Array (Option Value)} {oc_handed kV_handed dc_handed pm_handed cd_handed ct_handed : Value}
    {f_open_best : Addr} {od_open_best an_open_best : Option Addr} {sl_open_best : Array (Option Value)} {oc_open_best kV_open_best dc_open_best pm_open_best cd_open_best ct_open_best : Value}
    {f_boxes_best : Addr} {od_boxes_best an_boxes_best : Option Addr} {sl_boxes_best : Array (Option Value)} {oc_boxes_best kV_boxes_best dc_boxes_best pm_boxes_best cd_boxes_best ct_boxes_best : Value}
    {f__law_draws : Addr} {od__law_draws an__law_draws : Option Addr} {sl__law_draws : Array (Option Value)} {oc__law_draws kV__law_draws dc__law_draws pm__law_draws cd__law_draws ct__law_draws : Value}
    {f__law_draw : Addr} {od__law_draw an__law_draw : Option Addr} {sl__law_draw : Array (Option Value)} {oc__law_draw kV__law_draw dc__law_draw pm__law_draw cd__law_draw ct__law_draw : Value}
    {f__law_pick : Addr} {od__law_pick an__law_pick : Option Addr} {sl__law_pick : Array (Option Value)} {oc__law_pick kV__law_pick dc__law_pick pm__law_pick cd__law_pick ct__law_pick : Value}
    {f__law_same : Addr} {od__law_same an__law_same : Option Addr} {sl__law_same : Array (Option Value)} {oc__law_same kV__law_same dc__law_same pm__law_same cd__law_same ct__law_same : Value}
    {f__law_best : Addr} {od__law_best an__law_best : Option Addr} {sl__law_best : Array (Option Value)} {oc__law_best kV__law_best dc__law_best pm__law_best cd__law_best ct__law_best : Value}
    {f_law : Addr} {od_law an_law : Option Addr} {sl_law : Array (Option Value)} {oc_law kV_law dc_law pm_law cd_law ct_law : Value}
    {C_Refused f_Refused_i G_Refused : Addr} {nm_Refused q_Refused : PySem.Str} {N_Refused bs_Refused bm_Refused sn_Refused : _} {sub_Refused ab_Refused col_Refused dd_Refused k0_Refused k1_Refused k2_Refused k3_Refused k5_Refused : _}
    {od_Refused_i an_Refused_i : Option Addr} {sl_Refused_i : Array (Option Value)} {oc_Refused_i kV_Refused_i dc_Refused_i pm_Refused_i cd_Refused_i ct_Refused_i : Value}
    (a_handed : PySem.W.nsIn K mainGlobals "handed" = some (some (.ref f_handed)))
    (l_handed : K.lookup f_handed = some ⟨oc_handed, od_handed, .func (PySem.W.fnOf "handed" "handed" (defArgs st_handed) (defBody st_handed) (defScope st_handed) .none kV_handed dc_handed pm_handed an_handed cd_handed ct_handed), sl_handed⟩)
    (c_handed : PySem.W.codeIn K cd_handed "handed" = true)
    (k_handed : PySem.W.keepIn K (.ref f_handed) = true)
    (a_open_best : PySem.W.nsIn K mainGlobals "open_best" = some (some (.ref f_open_best)))
    (l_open_best : K.lookup f_open_best = some ⟨oc_open_best, od_open_best, .func (PySem.W.fnOf "open_best" "open_best" (defArgs st_open_best) (defBody st_open_best) (defScope st_open_best) .none kV_open_best dc_open_best pm_open_best an_open_best cd_open_best ct_open_best), sl_open_best⟩)
    (c_open_best : PySem.W.codeIn K cd_open_best "open_best" = true)
    (k_open_best : PySem.W.keepIn K (.ref f_open_best) = true)
    (a_boxes_best : PySem.W.nsIn K mainGlobals "boxes_best" = some (some (.ref f_boxes_best)))
    (l_boxes_best : K.lookup f_boxes_best = some ⟨oc_boxes_best, od_boxes_best, .func (PySem.W.fnOf "boxes_best" "boxes_best" (defArgs st_boxes_best) (defBody st_boxes_best) (defScope st_boxes_best) .none kV_boxes_best dc_boxes_best pm_boxes_best an_boxes_best cd_boxes_best ct_boxes_best), sl_boxes_best⟩)
    (c_boxes_best : PySem.W.codeIn K cd_boxes_best "boxes_best" = true)
    (k_boxes_best : PySem.W.keepIn K (.ref f_boxes_best) = true)
    (a__law_draws : PySem.W.nsIn K mainGlobals "_law_draws" = some (some (.ref f__law_draws)))
    (l__law_draws : K.lookup f__law_draws = some ⟨oc__law_draws, od__law_draws, .func (PySem.W.fnOf "_law_draws" "_law_draws" (defArgs st__law_draws) (defBody st__law_draws) (defScope st__law_draws) .none kV__law_draws dc__law_draws pm__law_draws an__law_draws cd__law_draws ct__law_draws), sl__law_draws⟩)
    (c__law_draws : PySem.W.codeIn K cd__law_draws "_law_draws" = true)
    (k__law_draws : PySem.W.keepIn K (.ref f__law_draws) = true)
    (a__law_draw : PySem.W.nsIn K mainGlobals "_law_draw" = some (some (.ref f__law_draw)))
    (l__law_draw : K.lookup f__law_draw = some ⟨oc__law_draw, od__law_draw, .func (PySem.W.fnOf "_law_draw" "_law_draw" (defArgs st__law_draw) (defBody st__law_draw) (defScope st__law_draw) .none kV__law_draw dc__law_draw pm__law_draw an__law_draw cd__law_draw ct__law_draw), sl__law_draw⟩)
    (c__law_draw : PySem.W.codeIn K cd__law_draw "_law_draw" = true)
    (k__law_draw : PySem.W.keepIn K (.ref f__law_draw) = true)
    (a__law_pick : PySem.W.nsIn K mainGlobals "_law_pick" = some (some (.ref f__law_pick)))
    (l__law_pick : K.lookup f__law_pick = some ⟨oc__law_pick, od__law_pick, .func (PySem.W.fnOf "_law_pick" "_law_pick" (defArgs st__law_pick) (defBody st__law_pick) (defScope st__law_pick) .none kV__law_pick dc__law_pick pm__law_pick an__law_pick cd__law_pick ct__law_pick), sl__law_pick⟩)
    (c__law_pick : PySem.W.codeIn K cd__law_pick "_law_pick" = true)
    (k__law_pick : PySem.W.keepIn K (.ref f__law_pick) = true)
    (a__law_same : PySem.W.nsIn K mainGlobals "_law_same" = some (some (.ref f__law_same)))
    (l__law_same : K.lookup f__law_same = some ⟨oc__law_same, od__law_same, .func (PySem.W.fnOf "_law_same" "_law_same" (defArgs st__law_same) (defBody st__law_same) (defScope st__law_same) .none kV__law_same dc__law_same pm__law_same an__law_same cd__law_same ct__law_same), sl__law_same⟩)
    (c__law_same : PySem.W.codeIn K cd__law_same "_law_same" = true)
    (k__law_same : PySem.W.keepIn K (.ref f__law_same) = true)
    (a__law_best : PySem.W.nsIn K mainGlobals "_law_best" = some (some (.ref f__law_best)))
    (l__law_best : K.lookup f__law_best = some ⟨oc__law_best, od__law_best, .func (PySem.W.fnOf "_law_best" "_law_best" (defArgs st__law_best) (defBody st__law_best) (defScope st__law_best) .none kV__law_best dc__law_best pm__law_best an__law_best cd__law_best ct__law_best), sl__law_best⟩)
    (c__law_best : PySem.W.codeIn K cd__law_best "_law_best" = true)
    (k__law_best : PySem.W.keepIn K (.ref f__law_best) = true)
    (a_law : PySem.W.nsIn K mainGlobals "law" = some (some (.ref f_law)))
    (l_law : K.lookup f_law = some ⟨oc_law, od_law, .func (PySem.W.fnOf "law" "law" (defArgs st_law) (defBody st_law) (defScope st_law) .none kV_law dc_law pm_law an_law cd_law ct_law), sl_law⟩)
    (c_law : PySem.W.codeIn K cd_law "law" = true)
    (k_law : PySem.W.keepIn K (.ref f_law) = true)
    (z_any : PySem.W.nsIn K mainGlobals "any" = some none)
    (z_bool : PySem.W.nsIn K mainGlobals "bool" = some none)
    (z_enumerate : PySem.W.nsIn K mainGlobals "enumerate" = some none)
    (z_int : PySem.W.nsIn K mainGlobals "int" = some none)
    (z_isinstance : PySem.W.nsIn K mainGlobals "isinstance" = some none)
    (z_len : PySem.W.nsIn K mainGlobals "len" = some none)
    (z_list : PySem.W.nsIn K mainGlobals "list" = some none)
    (z_max : PySem.W.nsIn K mainGlobals "max" = some none)
    (z_min : PySem.W.nsIn K mainGlobals "min" = some none)
    (z_range : PySem.W.nsIn K mainGlobals "range" = some none)
    (z_sorted : PySem.W.nsIn K mainGlobals "sorted" = some none)
    (z_str : PySem.W.nsIn K mainGlobals "str" = some none)
    (z_tuple : PySem.W.nsIn K mainGlobals "tuple" = some none)
    (g_Refused : PySem.W.nsIn K mainGlobals "Refused" = some (some (.ref C_Refused)))
    (lc_Refused : K.lookup C_Refused = some (PySem.excClassObj nm_Refused q_Refused C_Refused N_Refused bs_Refused bm_Refused true sn_Refused sub_Refused ab_Refused col_Refused dd_Refused k0_Refused k1_Refused k2_Refused k3_Refused k5_Refused "ValueError.__new__"))
    (rv_Refused : PySem.HandSPX.refsVE bm_Refused = true)
    (sa_Refused : PySem.W.findIn K (.ref C_Refused) "__setattr__" = some (some (.builtin "object.__setattr__")))
    (ex_Refused : PySem.W.subIn K (.ref C_Refused) (.type "BaseException") = some true)
    (ty_Refused : PySem.W.typeIn K (.ref C_Refused) = some (.type "type"))
    (kc_Refused : PySem.W.keepIn K (.ref C_Refused) = true)
    (nw_Refused : PySem.W.findIn K (.ref C_Refused) "word" = some none)
    (ic_Refused : PySem.W.findIn K (.ref C_Refused) "__init__" = some (some (.ref f_Refused_i)))
    (ti_Refused : PySem.W.typeIn K (.ref f_Refused_i) = some (.type "function"))
    (li_Refused : K.lookup f_Refused_i = some ⟨oc_Refused_i, od_Refused_i, .func (PySem.W.fnOf "__init__" "Refused.__init__" (defArgs stI_Refused) (defBody stI_Refused) (defScope stI_Refused) .none kV_Refused_i dc_Refused_i pm_Refused_i an_Refused_i cd_Refused_i ct_Refused_i), sl_Refused_i⟩)
    (ci_Refused : PySem.W.codeIn K cd_Refused_i "Refused.__init__" = true)
    (ki_Refused : PySem.W.keepIn K (.ref f_Refused_i) = true)
    (gg_Refused : PySem.W.nsIn K mainGlobals "GameError" = some (some (.ref G_Refused)))
    (rd_Refused : PySem.W.readsIn K G_Refused (.type "type") = true)
    (ga_Refused : PySem.W.specialIn K (.ref G_Refused) "__getattribute__" = some (some (.builtin "type.__getattribute__")))
    (fv_Refused : PySem.W.findCls K (.ref G_Refused) (.type "type") "__init__" = some (.val (.builtin "ValueError.__init__")))
    (xf_Refused : xfB K C_Refused = true)
    (em_Refused : PySem.W.exmOne K (.ref C_Refused) (.ref C_Refused) = some true) :
    ∃ fd : FuncData, (∀ (s : Shared) (v : Value), BindsTo s fd ⟨[v], []⟩ [("script", v)]) ∧ ∀ base : Heap, K.In base → base.Ns mainGlobals mg → FnOk l.prog w K mg base (L2N.CX l.prog w) 43 fa fd ["script"] (spLawD K) := by
  have e := hfa.symm.trans (PySem.W.mg_of X G a_law)
  cases e
  have Z : Bz mg := ⟨PySem.W.mg_none_of X G z_any, PySem.W.mg_none_of X G z_bool, PySem.W.mg_none_of X G z_enumerate, PySem.W.mg_none_of X G z_int, PySem.W.mg_none_of X G z_isinstance, PySem.W.mg_none_of X G z_len, PySem.W.mg_none_of X G z_list, PySem.W.mg_none_of X G z_max, PySem.W.mg_none_of X G z_min, PySem.W.mg_none_of X G z_range, PySem.W.mg_none_of X G z_sorted, PySem.W.mg_none_of X G z_str, PySem.W.mg_none_of X G z_tuple⟩
  have D_handed : DefIs l.prog K mg "handed" st_handed ps_handed := defIs_mk X G a_handed l_handed c_handed k_handed (fun _ _ _ _ _ _ us hl => match us, hl with | [_, _, _], _ => rfl)
  have D_open_best : DefIs l.prog K mg "open_best" st_open_best ps_open_best := defIs_mk X G a_open_best l_open_best c_open_best k_open_best (fun _ _ _ _ _ _ us hl => match us, hl with | [_, _, _], _ => rfl)
  have D_boxes_best : DefIs l.prog K mg "boxes_best" st_boxes_best ps_boxes_best := defIs_mk X G a_boxes_best l_boxes_best c_boxes_best k_boxes_best (fun _ _ _ _ _ _ us hl => match us, hl with | [_, _], _ => rfl)
  have D__law_draws : DefIs l.prog K mg "_law_draws" st__law_draws ps__law_draws := defIs_mk X G a__law_draws l__law_draws c__law_draws k__law_draws (fun _ _ _ _ _ _ us hl => match us, hl with | [_], _ => rfl)
  have D__law_draw : DefIs l.prog K mg "_law_draw" st__law_draw ps__law_draw := defIs_mk X G a__law_draw l__law_draw c__law_draw k__law_draw (fun _ _ _ _ _ _ us hl => match us, hl with | [_, _], _ => rfl)
  have D__law_pick : DefIs l.prog K mg "_law_pick" st__law_pick ps__law_pick := defIs_mk X G a__law_pick l__law_pick c__law_pick k__law_pick (fun _ _ _ _ _ _ us hl => match us, hl with | [_, _], _ => rfl)
  have D__law_same : DefIs l.prog K mg "_law_same" st__law_same ps__law_same := defIs_mk X G a__law_same l__law_same c__law_same k__law_same (fun _ _ _ _ _ _ us hl => match us, hl with | [_, _], _ => rfl)
  have D__law_best : DefIs l.prog K mg "_law_best" st__law_best ps__law_best := defIs_mk X G a__law_best l__law_best c__law_best k__law_best (fun _ _ _ _ _ _ us hl => match us, hl with | [_, _, _], _ => rfl)
  refine ⟨PySem.W.fnOf "law" "law" (defArgs st_law) (defBody st_law) (defScope st_law) .none kV_law dc_law pm_law an_law cd_law ct_law, fun s v => .of_eq rfl, fun base _ _ => ?_⟩
  let cl : Cls := fun n => if n = 1 then some (.ref C_Refused) else none
  have F_Refused := fun_mk (st := stI_Refused) li_Refused ci_Refused ki_Refused
  have R_Refused : RefIs l.prog w K mg base "Refused" C_Refused := ⟨PySem.W.mg_of X G g_Refused, ⟨⟨_, _, _, _, _, _, _, _, _, _, _, _, _, _, _, lc_Refused, rv_Refused⟩, sa_Refused, ex_Refused, ty_Refused, kc_Refused⟩, nw_Refused, ⟨_, _, ic_Refused, ti_Refused, F_Refused.binds (ps := ["self", "word"]) (fun _ _ _ _ _ _ us hl => match us, hl with | [_, _], _ => rfl), okI_Refused F_Refused (PySem.W.mg_of X G gg_Refused) rd_Refused ga_Refused fv_Refused⟩⟩
  have h_Refused : cl 1 = some (.ref C_Refused) := rfl
  have hcl_Refused : ∀ n v, cl n = some v → PySem.W.exmOne K v (.ref C_Refused) = some (([1] : List Nat).contains n) := fun n v h => by
    by_cases q : n = 1
    · subst q
      cases h
      exact em_Refused
    · have h : (if n = 1 then some (Value.ref C_Refused) else none) = some v := h
      rw [if_neg q] at h
      cases h
  have hcs_Refused : ∀ n, ([1] : List Nat).contains n = true → cl n = some (.ref C_Refused) := fun n h => by
    have q : n = 1 := by simpa using h
    subst q
    rfl
  have X_Refused : XfC K C_Refused := xfB_ok xf_Refused
  have FH := okH__law_same (P := l.prog) (w := w) (base := base) (cl := cl) Z D__law_same
  have C_handed := ok_handed (P := l.prog) (w := w) (base := base) (cl := cl) Z D_handed  
  have C_open_best := ok_open_best (P := l.prog) (w := w) (base := base) (cl := cl) Z D_open_best  C_handed 40
  have C_boxes_best := ok_boxes_best (P := l.prog) (w := w) (base := base) (cl := cl) Z D_boxes_best R_Refused h_Refused C_open_best
  have C__law_draw := ok__law_draw (P := l.prog) (w := w) (base := base) (cl := cl) Z D__law_draw  
  have C__law_pick := ok__law_pick (P := l.prog) (w := w) (base := base) (cl := cl) Z D__law_pick  C__law_draw
  have C__law_same := ok__law_same (P := l.prog) (w := w) (base := base) (cl := cl) Z D__law_same   40
  have C__law_best := ok__law_best (P := l.prog) (w := w) (base := base) (cl := cl) Z D__law_best   40
  have FD := fun_mk l__law_draws c__law_draws k__law_draws
  exact ok_law (P := l.prog) (w := w) (base := base) (cl := cl) Z (fun_mk l_law c_law k_law) FD (FD.binds (ps := ["script"]) (fun _ _ _ _ _ _ us hl => match us, hl with | [_], _ => rfl)) (PySem.W.mg_of X G a__law_draws) FH R_Refused hcl_Refused hcs_Refused X_Refused C__law_best C__law_draw C__law_pick C__law_same C_boxes_best main
end DL
end S_K62p
section S_K62e
set_option Elab.async false
set_option linter.all false
set_option maxRecDepth 100000
open PySem PySem.W PyProof.Rows
set_option maxRecDepth 100000 in
set_option maxHeartbeats 0 in
theorem PySem.Challenge.cw_movesworth_k62_whole_strings_and_rings_o_holds : PySem.Challenge.rw_movesworth_k62_whole_strings_and_rings_o.Holds := by
  w_on; o_law; k_head; (case hw => w_witness2)
  k_fill
  refine DL.walkD (l := PySem.Challenge.rw_movesworth_k62_whole_strings_and_rings_o) (k := 43) rfl rfl ⟨rfl, by decide, by decide⟩ (fun w h Y => PySem.W.kIn_of Y) ?F
  case F =>
    intro w mg fa h KX G hmg
    refine' DL.all_k DL.main KX G hmg ?a_handed ?l_handed ?c_handed ?k_handed ?a_open_best ?l_open_best ?c_open_best ?k_open_best ?a_boxes_best ?l_boxes_best ?c_boxes_best ?k_boxes_best ?a__law_draws ?l__law_draws ?c__law_draws ?k__law_draws ?a__law_draw ?l__law_draw ?c__law_draw ?k__law_draw ?a__law_pick ?l__law_pick ?c__law_pick ?k__law_pick ?a__law_same ?l__law_same ?c__law_same ?k__law_same ?a__law_best ?l__law_best ?c__law_best ?k__law_best ?a_law ?l_law ?c_law ?k_law ?z_any ?z_bool ?z_enumerate ?z_int ?z_isinstance ?z_len ?z_list ?z_max ?z_min ?z_range ?z_sorted ?z_str ?z_tuple ?g_Refused ?lc_Refused ?rv_Refused ?sa_Refused ?ex_Refused ?ty_Refused ?kc_Refused ?nw_Refused ?ic_Refused ?ti_Refused ?li_Refused ?ci_Refused ?ki_Refused ?gg_Refused ?rd_Refused ?ga_Refused ?fv_Refused ?xf_Refused ?em_Refused
    (case a_handed => k_is)
    (case l_handed => k_is)
    (case c_handed => k_is)
    (case k_handed => k_is)
    (case a_open_best => k_is)
    (case l_open_best => k_is)
    (case c_open_best => k_is)
    (case k_open_best => k_is)
    (case a_boxes_best => k_is)
    (case l_boxes_best => k_is)
    (case c_boxes_best => k_is)
    (case k_boxes_best => k_is)
    (case a__law_draws => k_is)
    (case l__law_draws => k_is)
    (case c__law_draws => k_is)
    (case k__law_draws => k_is)
    (case a__law_draw => k_is)
    (case l__law_draw => k_is)
    (case c__law_draw => k_is)
    (case k__law_draw => k_is)
    (case a__law_pick => k_is)
    (case l__law_pick => k_is)
    (case c__law_pick => k_is)
    (case k__law_pick => k_is)
    (case a__law_same => k_is)
    (case l__law_same => k_is)
    (case c__law_same => k_is)
    (case k__law_same => k_is)
    (case a__law_best => k_is)
    (case l__law_best => k_is)
    (case c__law_best => k_is)
    (case k__law_best => k_is)
    (case a_law => k_is)
    (case l_law => k_is)
    (case c_law => k_is)
    (case k_law => k_is)
    (case z_any => k_is)
    (case z_bool => k_is)
    (case z_enumerate => k_is)
    (case z_int => k_is)
    (case z_isinstance => k_is)
    (case z_len => k_is)
    (case z_list => k_is)
    (case z_max => k_is)
    (case z_min => k_is)
    (case z_range => k_is)
    (case z_sorted => k_is)
    (case z_str => k_is)
    (case z_tuple => k_is)
    (case g_Refused => k_is)
    (case lc_Refused => k_is)
    (case rv_Refused => decide +kernel)
    (case sa_Refused => k_is)
    (case ex_Refused => k_is)
    (case ty_Refused => k_is)
    (case kc_Refused => k_is)
    (case nw_Refused => k_is)
    (case ic_Refused => k_is)
    (case ti_Refused => k_is)
    (case li_Refused => k_is)
    (case ci_Refused => k_is)
    (case ki_Refused => k_is)
    (case gg_Refused => k_is)
    (case rd_Refused => k_is)
    (case ga_Refused => k_is)
    (case fv_Refused => k_is)
    (case xf_Refused => kernel_rfl)
    (case em_Refused => kernel_rfl)
end S_K62e
