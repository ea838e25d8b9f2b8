import PyProof.Rows.All
import Wide.All
import OpenK.AllK
import Wide.FinOn
import HandS.ForMost
import HandS.ForExc
import HandS.TupAny
import HandS.Wide
import HandS.Deep
import HandS.IsInst
import HandS.SortInts
import HandS.SortRule
import KE.KTupSum
import HandS.Walk
import HandS.Zip
import KE.GoesEnum
import HandS.ExcOwn
import HandS.TryMany
import HandS.Style
import HandS.HeadHook1
import HandS.HeadHook2
import HandS.HeadEnd
import PySem.Challenge.RW_surehouse_k09_whole_sums
import HandS.Head0
import HandS.Head1
import HandS.Head2
section
set_option Elab.async false
set_option linter.all false
set_option maxRecDepth 100000
set_option maxHeartbeats 1000000
namespace SH
open PySem PySem.Spec L2

/-- pure data -/
inductive D where
  | non | bl (b : Bool) | int (i : Int) | str (x : Str)
  | tup (xs : List D) | lst (xs : List D) | kl (xs : List D) | kt (xs : List D) | dic (ks vs : List D) | ref (n : Nat)
instance : Inhabited D := ⟨.non⟩
/-- a value in hand: data, or a list, a dict that nobody else holds -/
inductive Ev where
  | d (x : D) | o (xs : List D) | od (ks vs : List D)
/-- shared things that change -/
inductive Ob where
  | lst (xs : List D) | dic (ks vs : List D) | ins (C : Str) (fs : List (Str × D))

def kD : Key → D
  | .inl i => .int i
  | .inr x => .str x
def tD (k : List Key) : D := .tup (k.map kD)
/-- the keys and values of a dict object -/
inductive HoDic : HO → List D → List V → Prop
  | k (kvs : List (Key × V)) : HoDic (.dK kvs) (kvs.map fun p => kD p.1) (kvs.map (·.2))
  | t (kvs : List (List Key × V)) : HoDic (.dT kvs) (kvs.map fun p => tD p.1) (kvs.map (·.2))

mutual
inductive Rp (K : PySem.W.Frag) (Z : Hp) (al : List Addr) : D → V → Prop
  | non : Rp K Z al .non .non
  | bl (b : Bool) : Rp K Z al (.bl b) (.bl b)
  | int (i : Int) : Rp K Z al (.int i) (.int i)
  | str (x : Str) : Rp K Z al (.str x) (.str x)
  | tup {xs : List D} {vs : List V} {a : Addr} : Z a = some (.tup vs) → Rps K Z al xs vs → Rp K Z al (.tup xs) (.ref a)
  | lst {xs : List D} {vs : List V} {a : Addr} : Z a = some (.lst vs) → Rps K Z al xs vs → Rp K Z al (.lst xs) (.ref a)
  | kl {xs : List D} {vs : List V} {a : Addr} : SqL K Z a vs → Rps K Z al xs vs → Rp K Z al (.kl xs) (.ref a)
  | kt {xs : List D} {vs : List V} {a : Addr} : SqT K Z a vs → Rps K Z al xs vs → Rp K Z al (.kt xs) (.ref a)
  | dic {ks xs : List D} {vs : List V} {a : Addr} {o : HO} : Z a = some o → HoDic o ks vs → Rps K Z al xs vs → Rp K Z al (.dic ks xs) (.ref a)
  | ref {n : Nat} {a : Addr} : al[n]? = some a → Rp K Z al (.ref n) (.ref a)
inductive Rps (K : PySem.W.Frag) (Z : Hp) (al : List Addr) : List D → List V → Prop
  | nil : Rps K Z al [] []
  | cons {x : D} {v : V} {xs : List D} {vs : List V} : Rp K Z al x v → Rps K Z al xs vs → Rps K Z al (x :: xs) (v :: vs)
end

section
variable {K : PySem.W.Frag} {Z Z' H H' : Hp} {al al' : List Addr}

theorem seqT_mono (h : Same Z Z') {a : Addr} {vs : List V} (q : SqT K Z a vs) : SqT K Z' a vs := by
  rcases q with (q | ⟨o, q⟩) | q
  · exact .inl (.inl (h _ _ q))
  · exact .inl (.inr ⟨o, h _ _ q⟩)
  · exact .inr q

mutual
theorem Rp.mono (h : Same Z Z') (ha : ∀ (n : Nat) (a : Addr), al[n]? = some a → al'[n]? = some a) : ∀ {x : D} {v : V}, Rp K Z al x v → Rp K Z' al' x v
  | _, _, .non => .non
  | _, _, .bl b => .bl b
  | _, _, .int i => .int i
  | _, _, .str x => .str x
  | _, _, .tup q r => .tup (h _ _ q) (Rps.mono h ha r)
  | _, _, .kt q r => .kt (seqT_mono h q) (Rps.mono h ha r)
  | _, _, .lst q r => .lst (h _ _ q) (Rps.mono h ha r)
  | _, _, .kl q r => .kl (Same.seq h q) (Rps.mono h ha r)
  | _, _, .dic q d r => .dic (h _ _ q) d (Rps.mono h ha r)
  | _, _, .ref q => .ref (ha _ _ q)
theorem Rps.mono (h : Same Z Z') (ha : ∀ (n : Nat) (a : Addr), al[n]? = some a → al'[n]? = some a) : ∀ {xs : List D} {vs : List V}, Rps K Z al xs vs → Rps K Z' al' xs vs
  | _, _, .nil => .nil
  | _, _, .cons q r => .cons (Rp.mono h ha q) (Rps.mono h ha r)
end

theorem Rps.length : ∀ {xs : List D} {vs : List V}, Rps K Z al xs vs → xs.length = vs.length
  | _, _, .nil => rfl
  | _, _, .cons _ r => congrArg Nat.succ (Rps.length r)
theorem Rps.get : ∀ {xs : List D} {vs : List V} {i : Nat} {x : D}, Rps K Z al xs vs → xs[i]? = some x → ∃ v, vs[i]? = some v ∧ Rp K Z al x v
  | _, _, _, _, .nil, e => by simp at e
  | _, _, 0, _, .cons q _, e => by simp at e; subst e; exact ⟨_, rfl, q⟩
  | _, _, i + 1, _, .cons _ r, e => by
    obtain ⟨v, h1, h2⟩ := Rps.get (i := i) r (by simpa using e)
    exact ⟨v, by simpa using h1, h2⟩
theorem Rps.getV : ∀ {xs : List D} {vs : List V} {i : Nat} {v : V}, Rps K Z al xs vs → vs[i]? = some v → ∃ x, xs[i]? = some x ∧ Rp K Z al x v
  | _, _, _, _, .nil, e => by simp at e
  | _, _, 0, _, .cons q _, e => by simp at e; subst e; exact ⟨_, rfl, q⟩
  | _, _, i + 1, _, .cons _ r, e => by
    obtain ⟨v, h1, h2⟩ := Rps.getV (i := i) r (by simpa using e)
    exact ⟨v, by simpa using h1, h2⟩
theorem Rps.append : ∀ {xs ys : List D} {vs us : List V}, Rps K Z al xs vs → Rps K Z al ys us → Rps K Z al (xs ++ ys) (vs ++ us)
  | _, _, _, _, .nil, s => s
  | _, _, _, _, .cons q r, s => .cons q (Rps.append r s)
theorem Rps.take : ∀ {xs : List D} {vs : List V} (n : Nat), Rps K Z al xs vs → Rps K Z al (xs.take n) (vs.take n)
  | _, _, 0, _ => .nil
  | _, _, _ + 1, .nil => .nil
  | _, _, n + 1, .cons q r => .cons q (Rps.take n r)
theorem Rps.drop : ∀ {xs : List D} {vs : List V} (n : Nat), Rps K Z al xs vs → Rps K Z al (xs.drop n) (vs.drop n)
  | _, _, 0, r => r
  | _, _, _ + 1, .nil => .nil
  | _, _, n + 1, .cons _ r => Rps.drop n r
theorem Rps.set {x : D} {v : V} (q : Rp K Z al x v) : ∀ {xs : List D} {vs : List V} (i : Nat), Rps K Z al xs vs → Rps K Z al (xs.set i x) (vs.set i v)
  | _, _, _, .nil => .nil
  | _, _, 0, .cons _ r => .cons q r
  | _, _, i + 1, .cons p r => .cons p (Rps.set q i r)
theorem Rps.eraseIdx : ∀ {xs : List D} {vs : List V} (i : Nat), Rps K Z al xs vs → Rps K Z al (xs.eraseIdx i) (vs.eraseIdx i)
  | _, _, _, .nil => .nil
  | _, _, 0, .cons _ r => r
  | _, _, i + 1, .cons p r => .cons p (Rps.eraseIdx i r)
theorem Rps.ints : ∀ {ns : List Int} {vs : List V}, Rps K Z al (ns.map D.int) vs → vs = ns.map V.int
  | [], _, .nil => rfl
  | n :: ns, _, .cons q r => by
    cases q
    rw [Rps.ints r]
    rfl
theorem Rps.ofInts : ∀ (ns : List Int), Rps K Z al (ns.map D.int) (ns.map V.int)
  | [] => .nil
  | n :: ns => .cons (.int n) (Rps.ofInts ns)
theorem Rps.bls : ∀ {ns : List Bool} {vs : List V}, Rps K Z al (ns.map D.bl) vs → vs = ns.map V.bl
  | [], _, .nil => rfl
  | n :: ns, _, .cons q r => by
    cases q
    rw [Rps.bls r]
    rfl
theorem Rps.strs : ∀ {ns : List Str} {vs : List V}, Rps K Z al (ns.map D.str) vs → vs = ns.map V.str
  | [], _, .nil => rfl
  | n :: ns, _, .cons q r => by
    cases q
    rw [Rps.strs r]
    rfl
end

/-! ### roots and the table -/
section
variable (K : PySem.W.Frag) (cl : Str → Addr)
inductive RpE (Z : Hp) (al : List Addr) (H : Hp) : Ev → V → Prop
  | d {x : D} {v : V} : Rp K Z al x v → RpE Z al H (.d x) v
  | o {xs : List D} {vs : List V} {a : Addr} : H a = some (.lst vs) → Rps K Z al xs vs → RpE Z al H (.o xs) (.ref a)
  | od {ks xs : List D} {vs : List V} {a : Addr} {o : HO} : H a = some o → HoDic o ks vs → Rps K Z al xs vs → RpE Z al H (.od ks xs) (.ref a)
inductive ObAt (Z : Hp) (al : List Addr) (H : Hp) (a : Addr) : Ob → Prop
  | lst {xs : List D} {vs : List V} : H a = some (.lst vs) → Rps K Z al xs vs → ObAt Z al H a (.lst xs)
  | dic {ks xs : List D} {vs : List V} {o : HO} : H a = some o → HoDic o ks vs → Rps K Z al xs vs → ObAt Z al H a (.dic ks xs)
  | ins {C : Str} {dx : Addr} {fs : List (Str × D)} {us : List (Str × V)} : H a = some (.ins (cl C) dx us) → us.map (·.1) = fs.map (·.1) → Rps K Z al (fs.map (·.2)) (us.map (·.2)) → ObAt Z al H a (.ins C fs)
abbrev Rt := List (Ev × V)
def own1 : Ev × V → Option Addr
  | (.o _, .ref a) => some a
  | (.od _ _, .ref a) => some a
  | _ => none
def owned (r : Rt) : List Addr := r.filterMap own1
structure AbsAt (Z : Hp) (al : List Addr) (r : Rt) (tab : List Ob) (H : Hp) : Prop where
  same : Same Z H
  roots : ∀ q ∈ r, RpE K Z al H q.1 q.2
  len : al.length = tab.length
  tabs : ∀ (n : Nat) (a : Addr) (ob : Ob), al[n]? = some a → tab[n]? = some ob → ObAt K cl Z al H a ob
  nd : (owned r ++ al).Nodup
  dis : ∀ a ∈ owned r ++ al, Z a = none
def Abs (r : Rt) (tab : List Ob) (H : Hp) : Prop := ∃ Z al, AbsAt K cl Z al r tab H
end

section
variable {K : PySem.W.Frag} {cl : Str → Addr} {Z Z' H H' : Hp} {al al' : List Addr} {r r' : Rt} {tab tab' : List Ob} {v w : V} {xs ys ks : List D} {vs : List V} {a p : Addr}

theorem owned_cons_d {x : D} : owned ((.d x, v) :: r) = owned r := by
  unfold owned; rw [List.filterMap_cons]; rfl
theorem owned_cons_o : owned ((.o xs, .ref a) :: r) = a :: owned r := by
  unfold owned; rw [List.filterMap_cons]; rfl
theorem owned_cons_od : owned ((.od ks xs, .ref a) :: r) = a :: owned r := by
  unfold owned; rw [List.filterMap_cons]; rfl
theorem owned_append : owned (r ++ r') = owned r ++ owned r' := by
  unfold owned; rw [List.filterMap_append]
theorem owned_mem {q : Ev × V} (h : q ∈ r) (e : own1 q = some a) : a ∈ owned r := List.mem_filterMap.mpr ⟨q, h, e⟩

theorem AbsAt.sub (A : AbsAt K cl Z al r tab H) (h : ∀ q ∈ r', q ∈ r) (ho : (owned r').Sublist (owned r)) : AbsAt K cl Z al r' tab H :=
  ⟨A.same, fun q hq => A.roots q (h q hq), A.len, A.tabs, List.Sublist.nodup (List.Sublist.append ho (List.Sublist.refl _)) A.nd,
    fun a ha => A.dis a ((List.Sublist.append ho (List.Sublist.refl _)).subset ha)⟩
theorem AbsAt.perm (A : AbsAt K cl Z al r tab H) (h : r'.Perm r) : AbsAt K cl Z al r' tab H := by
  have hp : (owned r' ++ al).Perm (owned r ++ al) := List.Perm.append_right _ (List.Perm.filterMap own1 h)
  exact ⟨A.same, fun q hq => A.roots q (h.subset hq), A.len, A.tabs, hp.nodup_iff.mpr A.nd, fun a ha => A.dis a (hp.subset ha)⟩
theorem Abs.perm (A : Abs K cl r tab H) (h : r'.Perm r) : Abs K cl r' tab H := let ⟨Z, al, A⟩ := A; ⟨Z, al, A.perm h⟩
theorem Abs.sub (A : Abs K cl r tab H) (h : ∀ q ∈ r', q ∈ r) (ho : (owned r').Sublist (owned r)) : Abs K cl r' tab H := let ⟨Z, al, A⟩ := A; ⟨Z, al, A.sub h ho⟩
theorem Abs.sublist (A : Abs K cl r tab H) (h : r'.Sublist r) : Abs K cl r' tab H := A.sub (fun _ hq => h.subset hq) (List.Sublist.filterMap own1 h)
theorem AbsAt.sublist (A : AbsAt K cl Z al r tab H) (h : r'.Sublist r) : AbsAt K cl Z al r' tab H := A.sub (fun _ hq => h.subset hq) (List.Sublist.filterMap own1 h)
theorem AbsAt.tail {q : Ev × V} (A : AbsAt K cl Z al (q :: r) tab H) : AbsAt K cl Z al r tab H := A.sublist (List.sublist_cons_self _ _)
theorem Abs.tail {q : Ev × V} (A : Abs K cl (q :: r) tab H) : Abs K cl r tab H := A.sublist (List.sublist_cons_self _ _)
/-- a root of data is added -/
theorem AbsAt.addD {x : D} (A : AbsAt K cl Z al r tab H) (q : Rp K Z al x v) : AbsAt K cl Z al ((.d x, v) :: r) tab H := by
  refine ⟨A.same, fun q' hq => ?_, A.len, A.tabs, by rw [owned_cons_d]; exact A.nd, by rw [owned_cons_d]; exact A.dis⟩
  rcases List.mem_cons.mp hq with e | hq
  · subst e; exact .d q
  · exact A.roots _ hq
theorem AbsAt.rp {x : D} (A : AbsAt K cl Z al r tab H) (h : (Ev.d x, v) ∈ r) : Rp K Z al x v := by
  cases A.roots _ h with
  | d q => exact q
theorem Abs.dup {x : D} (A : Abs K cl r tab H) (h : (Ev.d x, v) ∈ r) : Abs K cl ((.d x, v) :: r) tab H := let ⟨Z, al, A⟩ := A; ⟨Z, al, A.addD (A.rp h)⟩
theorem Abs.addD {x : D} (A : Abs K cl r tab H) (h : ∀ Z al, Rp K Z al x v) : Abs K cl ((.d x, v) :: r) tab H := let ⟨Z, al, A⟩ := A; ⟨Z, al, A.addD (h Z al)⟩

/-- the heap grows outside of what is held -/
theorem RpE.heap {e : Ev} (h : RpE K Z al H e v) (k : ∀ a, own1 (e, v) = some a → H' a = H a) : RpE K Z al H' e v := by
  cases h with
  | d q => exact .d q
  | o e1 q => exact .o ((k _ rfl).trans e1) q
  | od e1 e2 q => exact .od ((k _ rfl).trans e1) e2 q
theorem RpE.mono {e : Ev} (h : RpE K Z al H e v) (hz : Same Z Z') (ha : ∀ (n : Nat) (a : Addr), al[n]? = some a → al'[n]? = some a) : RpE K Z' al' H e v := by
  cases h with
  | d q => exact .d (q.mono hz ha)
  | o e1 q => exact .o e1 (q.mono hz ha)
  | od e1 e2 q => exact .od e1 e2 (q.mono hz ha)
theorem ObAt.heap {ob : Ob} (h : ObAt K cl Z al H a ob) (k : H' a = H a) : ObAt K cl Z al H' a ob := by
  cases h with
  | lst e1 q => exact .lst (k.trans e1) q
  | dic e1 e2 q => exact .dic (k.trans e1) e2 q
  | ins e1 e2 q => exact .ins (k.trans e1) e2 q
theorem ObAt.mono {ob : Ob} (h : ObAt K cl Z al H a ob) (hz : Same Z Z') (ha : ∀ (n : Nat) (a : Addr), al[n]? = some a → al'[n]? = some a) : ObAt K cl Z' al' H a ob := by
  cases h with
  | lst e1 q => exact .lst e1 (q.mono hz ha)
  | dic e1 e2 q => exact .dic e1 e2 (q.mono hz ha)
  | ins e1 e2 q => exact .ins e1 e2 (q.mono hz ha)
theorem RpE.at_ {e : Ev} (h : RpE K Z al H e v) (q : own1 (e, v) = some a) : ∃ o, H a = some o := by
  cases h with
  | d _ => cases q
  | o e1 _ => cases q; exact ⟨_, e1⟩
  | od e1 _ _ => cases q; exact ⟨_, e1⟩
theorem ObAt.at_ {ob : Ob} (h : ObAt K cl Z al H a ob) : ∃ o, H a = some o := by
  cases h with
  | lst e1 _ => exact ⟨_, e1⟩
  | dic e1 _ _ => exact ⟨_, e1⟩
  | ins e1 _ _ => exact ⟨_, e1⟩
theorem AbsAt.own_at (A : AbsAt K cl Z al r tab H) (h : a ∈ owned r) : ∃ o, H a = some o := by
  obtain ⟨q, hq, e⟩ := List.mem_filterMap.mp h
  obtain ⟨e1, v1⟩ := q
  exact (A.roots _ hq).at_ e
theorem AbsAt.tab_at (A : AbsAt K cl Z al r tab H) (h : a ∈ al) : ∃ o, H a = some o := by
  obtain ⟨n, hn, e⟩ := List.mem_iff_getElem.mp h
  have hl : n < tab.length := by rw [← A.len]; exact hn
  exact (A.tabs n a tab[n] (by rw [List.getElem?_eq_getElem hn, e]) (List.getElem?_eq_getElem hl)).at_
theorem AbsAt.at_ (A : AbsAt K cl Z al r tab H) (h : a ∈ owned r ++ al) : ∃ o, H a = some o := by
  rcases List.mem_append.mp h with h | h
  · exact A.own_at h
  · exact A.tab_at h
/-- the frozen part and the heap change together, what is held stays -/
theorem AbsAt.move (A : AbsAt K cl Z al r tab H) (hz : Same Z Z') (hs : Same Z' H') (hk : ∀ a ∈ owned r ++ al, H' a = H a ∧ Z' a = none) : AbsAt K cl Z' al r tab H' := by
  refine ⟨hs, fun q hq => ?_, A.len, fun n a ob e1 e2 => ?_, A.nd, fun a ha => (hk a ha).2⟩
  · exact ((A.roots q hq).mono hz fun _ _ e => e).heap fun a e => (hk a (List.mem_append_left _ (owned_mem hq e))).1
  · exact ((A.tabs n a ob e1 e2).mono hz fun _ _ e => e).heap (hk a (List.mem_append_right _ (List.mem_of_getElem? e1))).1
theorem same_upd {o : HO} (h : Same Z H) (hp : Z p = none) : Same Z (upd H p o) := fun b u e => by
  rw [upd_ne (ne_of_none e hp)]; exact h b u e
theorem same_upd2 {o : HO} (h : Same Z H) (hp : H p = none) : Same (upd Z p o) (upd H p o) := fun b u e => by
  by_cases hb : b = p
  · subst hb; rw [upd_same] at e ⊢; exact e
  · rw [upd_ne hb] at e ⊢; exact h b u e
theorem same_grow {o : HO} (hp : Z p = none) : Same Z (upd Z p o) := fun b u e => by
  rw [upd_ne (ne_of_none e hp)]; exact e
/-- a new object that nobody asks for -/
theorem AbsAt.junk {o : HO} (A : AbsAt K cl Z al r tab H) (hp : H p = none) : AbsAt K cl Z al r tab (upd H p o) := by
  refine A.move (Same.refl _) (same_upd A.same (A.same.free hp)) fun a ha => ⟨upd_ne ?_, A.dis a ha⟩
  obtain ⟨u, e⟩ := A.at_ ha
  exact ne_of_none e hp
theorem Abs.junk {o : HO} (A : Abs K cl r tab H) (hp : H p = none) : Abs K cl r tab (upd H p o) := let ⟨Z, al, A⟩ := A; ⟨Z, al, A.junk hp⟩
/-- a new tuple -/
theorem AbsAt.newTup (A : AbsAt K cl Z al r tab H) (hp : H p = none) (q : Rps K Z al xs vs) : AbsAt K cl (upd Z p (.tup vs)) al ((.d (.tup xs), .ref p) :: r) tab (upd H p (.tup vs)) := by
  have hz : Z p = none := A.same.free hp
  have B : AbsAt K cl (upd Z p (.tup vs)) al r tab (upd H p (.tup vs)) := by
    refine A.move (same_grow hz) (same_upd2 A.same hp) fun a ha => ?_
    obtain ⟨u, e⟩ := A.at_ ha
    have ne := ne_of_none e hp
    exact ⟨upd_ne ne, by rw [upd_ne ne]; exact A.dis a ha⟩
  exact B.addD (.tup upd_same (q.mono (same_grow hz) fun _ _ e => e))
theorem AbsAt.newFrz (A : AbsAt K cl Z al r tab H) (hp : H p = none) (q : Rps K Z al xs vs) : AbsAt K cl (upd Z p (.lst vs)) al ((.d (.lst xs), .ref p) :: r) tab (upd H p (.lst vs)) := by
  have hz : Z p = none := A.same.free hp
  have B : AbsAt K cl (upd Z p (.lst vs)) al r tab (upd H p (.lst vs)) := by
    refine A.move (same_grow hz) (same_upd2 A.same hp) fun a ha => ?_
    obtain ⟨u, e⟩ := A.at_ ha
    have ne := ne_of_none e hp
    exact ⟨upd_ne ne, by rw [upd_ne ne]; exact A.dis a ha⟩
  exact B.addD (.lst upd_same (q.mono (same_grow hz) fun _ _ e => e))
/-- an owned object is laid -/
theorem AbsAt.newOwn {e : Ev} {o : HO} (A : AbsAt K cl Z al r tab H) (hp : H p = none) (he : own1 (e, .ref p) = some p) (q : RpE K Z al (upd H p o) e (.ref p)) : AbsAt K cl Z al ((e, .ref p) :: r) tab (upd H p o) := by
  have B := A.junk (o := o) hp
  have hn : p ∉ owned r ++ al := fun h => by
    obtain ⟨u, e⟩ := A.at_ h
    rw [hp] at e; cases e
  have ho : owned ((e, .ref p) :: r) = p :: owned r := by unfold owned; rw [List.filterMap_cons, he]
  refine ⟨B.same, fun q' hq => ?_, B.len, B.tabs, by rw [ho]; exact List.nodup_cons.mpr ⟨hn, A.nd⟩, fun a ha => ?_⟩
  · rcases List.mem_cons.mp hq with z | hq
    · subst z; exact q
    · exact B.roots _ hq
  · rw [ho] at ha
    rcases List.mem_cons.mp ha with z | ha
    · subst z; exact A.same.free hp
    · exact A.dis a ha
theorem AbsAt.newLst (A : AbsAt K cl Z al r tab H) (hp : H p = none) (q : Rps K Z al xs vs) : AbsAt K cl Z al ((.o xs, .ref p) :: r) tab (upd H p (.lst vs)) :=
  A.newOwn hp rfl (.o upd_same q)
/-- what is owned is changed -/
theorem AbsAt.setOwn {e e' : Ev} {o : HO} (A : AbsAt K cl Z al ((e, .ref a) :: r) tab H) (he : own1 (e, .ref a) = some a) (he' : own1 (e', .ref a) = some a) (q : RpE K Z al (upd H a o) e' (.ref a)) : AbsAt K cl Z al ((e', .ref a) :: r) tab (upd H a o) := by
  have ho : owned ((e, .ref a) :: r) = a :: owned r := by unfold owned; rw [List.filterMap_cons, he]
  have ho' : owned ((e', .ref a) :: r) = a :: owned r := by unfold owned; rw [List.filterMap_cons, he']
  have nd := A.nd
  have dis := A.dis
  rw [ho] at nd dis
  have hna : a ∉ owned r ++ al := (List.nodup_cons.mp nd).1
  have hz : Z a = none := dis a List.mem_cons_self
  refine ⟨same_upd A.same hz, fun q' hq => ?_, A.len, fun n b ob e1 e2 => ?_, by rw [ho']; exact nd, by rw [ho']; exact dis⟩
  · rcases List.mem_cons.mp hq with z | hq2
    · subst z; exact q
    · exact (A.roots _ (List.mem_cons_of_mem _ hq2)).heap fun b eb => upd_ne fun z => hna (z ▸ List.mem_append_left _ (owned_mem hq2 eb))
  · exact (A.tabs n b ob e1 e2).heap (upd_ne fun z => hna (by subst z; exact List.mem_append_right _ (List.mem_of_getElem? e1)))
theorem AbsAt.setLst (A : AbsAt K cl Z al ((.o xs, .ref a) :: r) tab H) (q : Rps K Z al ys vs) : AbsAt K cl Z al ((.o ys, .ref a) :: r) tab (upd H a (.lst vs)) :=
  A.setOwn rfl rfl (.o upd_same q)
/-- what is owned becomes data -/
theorem AbsAt.freeze (A : AbsAt K cl Z al ((.o xs, .ref a) :: r) tab H) : ∃ Z', AbsAt K cl Z' al ((.d (.lst xs), .ref a) :: r) tab H := by
  obtain ⟨vs, h1, h2⟩ : ∃ vs, H a = some (.lst vs) ∧ Rps K Z al xs vs := by
    cases A.roots _ List.mem_cons_self with
    | o e q => exact ⟨_, e, q⟩
  have nd := A.nd
  have dis := A.dis
  rw [owned_cons_o] at nd dis
  have hna : a ∉ owned r ++ al := (List.nodup_cons.mp nd).1
  have hz : Z a = none := dis a List.mem_cons_self
  refine ⟨upd Z a (.lst vs), AbsAt.addD (A.tail.move (same_grow hz) (fun b u e => ?_) fun b hb => ⟨rfl, ?_⟩) (.lst upd_same (h2.mono (same_grow hz) fun _ _ e => e))⟩
  · by_cases hb : b = a
    · subst hb; rw [upd_same] at e; cases e; exact h1
    · rw [upd_ne hb] at e; exact A.same _ _ e
  · rw [upd_ne fun z => hna (by subst z; exact hb)]; exact dis b (List.mem_cons_of_mem _ hb)
theorem AbsAt.freezeD (A : AbsAt K cl Z al ((.od ks xs, .ref a) :: r) tab H) : ∃ Z', AbsAt K cl Z' al ((.d (.dic ks xs), .ref a) :: r) tab H := by
  obtain ⟨o, vs, h1, hd, h2⟩ : ∃ o vs, H a = some o ∧ HoDic o ks vs ∧ Rps K Z al xs vs := by
    cases A.roots _ List.mem_cons_self with
    | od e d q => exact ⟨_, _, e, d, q⟩
  have nd := A.nd
  have dis := A.dis
  rw [owned_cons_od] at nd dis
  have hna : a ∉ owned r ++ al := (List.nodup_cons.mp nd).1
  have hz : Z a = none := dis a List.mem_cons_self
  refine ⟨upd Z a o, AbsAt.addD (A.tail.move (same_grow hz) (fun b u e => ?_) fun b hb => ⟨rfl, ?_⟩) (.dic upd_same hd (h2.mono (same_grow hz) fun _ _ e => e))⟩
  · by_cases hb : b = a
    · subst hb; rw [upd_same] at e; cases e; exact h1
    · rw [upd_ne hb] at e; exact A.same _ _ e
  · rw [upd_ne fun z => hna (by subst z; exact hb)]; exact dis b (List.mem_cons_of_mem _ hb)
/-- data of what is in hand -/
def Ev.toD : Ev → D
  | .d x => x
  | .o xs => .lst xs
  | .od ks xs => .dic ks xs
theorem RpE.isRef {e : Ev} (h : RpE K Z al H e v) : (∃ x, e = .d x) ∨ ∃ a, v = .ref a := by
  cases h with
  | d _ => exact .inl ⟨_, rfl⟩
  | o _ _ => exact .inr ⟨_, rfl⟩
  | od _ _ _ => exact .inr ⟨_, rfl⟩
theorem Abs.toD {e : Ev} (A : Abs K cl ((e, v) :: r) tab H) : Abs K cl ((.d e.toD, v) :: r) tab H := by
  obtain ⟨Z, al, A⟩ := A
  cases e with
  | d x => exact ⟨Z, al, A⟩
  | o xs =>
    rcases (A.roots _ List.mem_cons_self).isRef with ⟨x, e⟩ | ⟨a, e⟩
    · cases e
    · simp only at e; subst e
      obtain ⟨Z', A'⟩ := A.freeze
      exact ⟨Z', al, A'⟩
  | od ks xs =>
    rcases (A.roots _ List.mem_cons_self).isRef with ⟨x, e⟩ | ⟨a, e⟩
    · cases e
    · simp only at e; subst e
      obtain ⟨Z', A'⟩ := A.freezeD
      exact ⟨Z', al, A'⟩
/-- an owned list becomes a shared one -/
theorem al_grow {n : Nat} {b : Addr} (e : al[n]? = some b) : (al ++ [a])[n]? = some b := by
  rw [List.getElem?_append_left (List.getElem?_eq_some_iff.mp e).1]; exact e
theorem AbsAt.share {e : Ev} {ob : Ob} (A : AbsAt K cl Z al ((e, .ref a) :: r) tab H) (he : own1 (e, .ref a) = some a) (hob : ObAt K cl Z al H a ob) : AbsAt K cl Z (al ++ [a]) ((.d (.ref tab.length), .ref a) :: r) (tab ++ [ob]) H := by
  have ho : owned ((e, .ref a) :: r) = a :: owned r := by unfold owned; rw [List.filterMap_cons, he]
  have nd := A.nd
  have dis := A.dis
  rw [ho] at nd dis
  have pm : (owned r ++ (al ++ [a])).Perm (a :: owned r ++ al) := by
    rw [← List.append_assoc]
    exact List.perm_append_comm
  refine AbsAt.addD ⟨A.same, fun q hq => (A.roots q (List.mem_cons_of_mem _ hq)).mono (Same.refl _) fun _ _ => al_grow, by simp [A.len], fun n b ob' e1 e2 => ?_, pm.nodup_iff.mpr nd, fun b hb => dis b (pm.subset hb)⟩ (.ref (by rw [← A.len]; simp))
  by_cases hn : n < al.length
  · rw [List.getElem?_append_left hn] at e1
    rw [List.getElem?_append_left (by rw [← A.len]; exact hn)] at e2
    exact (A.tabs n b ob' e1 e2).mono (Same.refl _) fun _ _ => al_grow
  · rw [List.getElem?_append_right (by omega)] at e1
    rw [List.getElem?_append_right (by rw [← A.len]; omega)] at e2
    have hk : n - al.length = 0 := by
      have := (List.getElem?_eq_some_iff.mp e1).1
      simp at this
      omega
    rw [hk] at e1
    rw [← A.len, hk] at e2
    simp at e1 e2
    subst e1 e2
    exact hob.mono (Same.refl _) fun _ _ => al_grow
/-- a shared thing is changed -/
theorem AbsAt.setTab {n : Nat} {ob : Ob} {o : HO} (A : AbsAt K cl Z al r tab H) (e : al[n]? = some a) (q : ObAt K cl Z al (upd H a o) a ob) : AbsAt K cl Z al r (tab.set n ob) (upd H a o) := by
  have hz : Z a = none := A.dis a (List.mem_append_right _ (List.mem_of_getElem? e))
  have hd := List.nodup_append.mp A.nd
  have hno : a ∉ owned r := fun h => hd.2.2 a h a (List.mem_of_getElem? e) rfl
  refine ⟨same_upd A.same hz, fun q' hq => (A.roots _ hq).heap fun b eb => upd_ne fun z => hno (by subst z; exact owned_mem hq eb), by simp [A.len], fun m b ob' e1 e2 => ?_, A.nd, A.dis⟩
  by_cases hm : m = n
  · subst hm
    rw [e] at e1; cases e1
    have hlt : m < tab.length := by rw [← A.len]; exact (List.getElem?_eq_some_iff.mp e).1
    rw [List.getElem?_set_self hlt] at e2; cases e2
    exact q
  · rw [List.getElem?_set_ne (Ne.symm hm)] at e2
    refine (A.tabs m b ob' e1 e2).heap (upd_ne fun z => hm ?_)
    subst z
    obtain ⟨h1, e1'⟩ := List.getElem?_eq_some_iff.mp e1
    obtain ⟨h2, e2'⟩ := List.getElem?_eq_some_iff.mp e
    exact (List.getElem_inj hd.2.1).mp (e1'.trans e2'.symm)
end
end SH

end
section
set_option Elab.async false
set_option linter.all false
set_option maxRecDepth 100000
set_option maxHeartbeats 1000000
namespace SH
open PySem PySem.Spec L2

/-! ### the small language -/
inductive Bop | add | sub | mul | fdiv | mod | pow
  deriving DecidableEq
inductive Cop | eq | ne | lt | le | gt | ge | in_ | ni
  deriving DecidableEq
inductive Bi | len | sum | all | any | tuple | list | int | str | min | max | sorted
  deriving DecidableEq
inductive Ty | int | bool | str | tuple | list
  deriving DecidableEq
mutual
inductive Tg
  | name (i : Nat) | tup (gs : Tgs)
inductive Tgs
  | nil | cons (g : Tg) (r : Tgs)
end
mutual
inductive Ex
  | var (i : Nat) | mv (i : Nat) | bor (i : Nat)
  | non | bl (b : Bool) | int (i : Int) | str (x : Str) | glob (x : Str)
  | op (o : Bop) (a b : Ex) | neg (a : Ex)
  | cmp (o : Cop) (a b : Ex) | chain (o1 o2 : Cop) (a b c : Ex) | isN (n : Bool) (a : Ex)
  | and_ (a b : Ex) | or_ (a b : Ex) | not_ (a : Ex)
  | ite_ (c a b : Ex)
  | tup (es : Exs) | lst (es : Exs)
  | ix (a b : Ex) | sl (a lo hi : Ex) | nop
  | call (f : Str) (es : Exs)
  | bi (b : Bi) (es : Exs)
  | isi (a : Ex) (T : Ty) | isit (a : Ex) (Ts : List Ty)
  | comp (own : List (Str × Nat)) (g : Tg) (it : Gen) (c e : Ex)
  | pop (i : Nat) (k : Ex)
  | share (e : Ex)
inductive Exs
  | nil | cons (e : Ex) (r : Exs)
inductive Gen
  | seq (e : Ex) | enum (e : Ex) | zip (a b : Ex) | rng1 (e : Ex) | rng2 (a b : Ex)
end
mutual
inductive Sm
  | asg (g : Tg) (e : Ex)
  | par (is : List Nat) (es : Exs)
  | aug (i : Nat) (o : Bop) (e : Ex)
  | setIx (b k e : Ex)
  | augIx (b k : Ex) (o : Bop) (e : Ex)
  | append (b e : Ex)
  | expr (e : Ex)
  | ret (e : Ex) | retN
  | iff (c : Ex) (a b : Sms)
  | for_ (g : Tg) (it : Gen) (body : Sms)
  | while_ (c : Ex) (body : Sms)
  | raise (C : Str) (m : Str)
  | try_ (body : Sms) (hs : Hds)
  | pass | brk | cont
inductive Sms
  | nil | cons (s : Sm) (r : Sms)
inductive Hds
  | nil | cons (C : Str) (nm : Option Nat) (body : Sms) (r : Hds)
end

/-! ### states and answers -/
abbrev Env := List (Option Ev)
structure S where
  env : Env
  tab : List Ob
inductive R (α : Type)
  | ok (a : α) (s : S) | ex (x : Str) (s : S) | st
inductive Rc
  | ok (e : Ev) (tab : List Ob) | ex (x : Str) (tab : List Ob) | st
inductive F
  | nx (s : S) | rt (e : Ev) (s : S) | bk (s : S) | ct (s : S) | ex (x : Str) (s : S) | st
abbrev CallT := Str → List D → List Ob → Rc
/-- what stands around a body: the defs by name, the module's constants, which error is under which -/
structure Kt where
  call : CallT
  con : Str → Option D
  sub : Str → Str → Option Bool
def R.bind {α β : Type} (r : R α) (f : α → S → R β) : R β := match r with
  | .ok a s => f a s
  | .ex x s => .ex x s
  | .st => .st
def R.bindF {α : Type} (r : R α) (f : α → S → F) : F := match r with
  | .ok a s => f a s
  | .ex x s => .ex x s
  | .st => .st
def R.ofO {α : Type} (o : Option α) (s : S) : R α := match o with
  | some a => .ok a s
  | none => .st
def F.seq (f : F) (g : S → F) : F := match f with
  | .nx s => g s
  | f => f
@[simp] theorem R.bind_ok {α β : Type} {a : α} {s : S} {f : α → S → R β} : (R.ok a s).bind f = f a s := rfl
@[simp] theorem R.bind_ex {α β : Type} {x : Str} {s : S} {f : α → S → R β} : (R.ex x s : R α).bind f = .ex x s := rfl
@[simp] theorem R.bind_st {α β : Type} {f : α → S → R β} : (R.st : R α).bind f = .st := rfl
@[simp] theorem R.bindF_ok {α : Type} {a : α} {s : S} {f : α → S → F} : (R.ok a s).bindF f = f a s := rfl
@[simp] theorem R.bindF_ex {α : Type} {x : Str} {s : S} {f : α → S → F} : (R.ex x s : R α).bindF f = .ex x s := rfl
@[simp] theorem R.bindF_st {α : Type} {f : α → S → F} : (R.st : R α).bindF f = .st := rfl
@[simp] theorem R.ofO_some {α : Type} {a : α} {s : S} : R.ofO (some a) s = .ok a s := rfl
@[simp] theorem R.ofO_none {α : Type} {s : S} : (R.ofO none s : R α) = .st := rfl
@[simp] theorem F.seq_nx {s : S} {g : S → F} : (F.nx s).seq g = g s := rfl
@[simp] theorem F.seq_rt {e : Ev} {s : S} {g : S → F} : (F.rt e s).seq g = .rt e s := rfl
@[simp] theorem F.seq_bk {s : S} {g : S → F} : (F.bk s).seq g = .bk s := rfl
@[simp] theorem F.seq_ct {s : S} {g : S → F} : (F.ct s).seq g = .ct s := rfl
@[simp] theorem F.seq_ex {x : Str} {s : S} {g : S → F} : (F.ex x s).seq g = .ex x s := rfl
@[simp] theorem F.seq_st {g : S → F} : (F.st).seq g = .st := rfl

/-! ### what the operations are worth -/
def lim : Nat := 16777216
mutual
def eqD : D → D → Bool
  | .non, .non => true
  | .bl a, .bl b => a == b
  | .bl a, .int j => (if a then 1 else 0) == j
  | .int i, .bl b => i == (if b then 1 else 0)
  | .int i, .int j => i == j
  | .str x, .str y => x == y
  | .lst xs, .lst ys => eqDs xs ys
  | .tup xs, .tup ys => eqDs xs ys
  | _, _ => false
def eqDs : List D → List D → Bool
  | [], [] => true
  | x :: xs, y :: ys => eqD x y && eqDs xs ys
  | _, _ => false
end
def okD : Nat → D → Bool
  | _, .non => true
  | _, .bl _ => true
  | _, .int _ => true
  | _, .str x => PyData.strOk x
  | n + 1, .tup xs => xs.all (okD n)
  | n + 1, .lst xs => xs.all (okD n)
  | _, _ => false
def flatD : D → Bool
  | .non => true
  | .bl _ => true
  | .int _ => true
  | .str _ => true
  | _ => false
/-- a list's items -/
def lstOf (tab : List Ob) : Ev → Option (List D)
  | .o xs => some xs
  | .d (.lst xs) => some xs
  | .d (.ref n) => (match tab[n]? with
    | some (.lst xs) => some xs
    | _ => none)
  | _ => none
/-- a list's or a tuple's items -/
def seqOf (tab : List Ob) : Ev → Option (List D)
  | .o xs => some xs
  | .d (.lst xs) => some xs
  | .d (.tup xs) => some xs
  | .d (.kl xs) => some xs
  | .d (.kt xs) => some xs
  | .d (.ref n) => (match tab[n]? with
    | some (.lst xs) => some xs
    | _ => none)
  | _ => none
/-- the data of a thing that is compared -/
def datOf (tab : List Ob) : Ev → Option D
  | .o xs => some (.lst xs)
  | .d (.ref n) => (match tab[n]? with
    | some (.lst xs) => some (.lst xs)
    | _ => none)
  | .d x => some x
  | _ => none
def i64 (i : Int) : Bool := decide (-18446744073709551616 < i) && decide (i < 18446744073709551616)
def binI : Bop → Int → Int → Option Int
  | .add, i, j => some (i + j)
  | .sub, i, j => some (i - j)
  | .mul, i, j => if i64 i || i64 j then some (i * j) else none
  | .fdiv, i, j => if 0 < j ∧ j < 18446744073709551616 then some (i / j) else none
  | .mod, i, j => if 0 < j then some (i % j) else none
  | .pow, i, j => if 0 ≤ j ∧ j ≤ 1000 ∧ i64 i then some (i ^ j.toNat) else none
def binD (o : Bop) (x y : Ev) (tab : List Ob) : Option Ev := match x, y with
  | .d (.int i), .d (.int j) => (binI o i j).map fun k => .d (.int k)
  | .d (.str x), .d (.str y) => if o = .add ∧ x.length + y.length ≤ lim then some (.d (.str (x ++ y))) else none
  | .d (.tup xs), .d (.tup ys) => if o = .add ∧ xs.length + ys.length ≤ lim then some (.d (.tup (xs ++ ys))) else none
  | x, .d (.int k) => (match lstOf tab x with
    | some xs => if o = .mul ∧ k < lim ∧ -lim < k ∧ xs.length * k.toNat ≤ lim then some (.o (List.replicate k.toNat xs).flatten) else none
    | none => none)
  | x, y => (match lstOf tab x, lstOf tab y with
    | some xs, some ys => if o = .add ∧ xs.length + ys.length ≤ lim then some (.o (xs ++ ys)) else none
    | _, _ => none)
def cmpI : Cop → Int → Int → Option Bool
  | .lt, i, j => some (decide (i < j))
  | .le, i, j => some (decide (i ≤ j))
  | .gt, i, j => some (decide (j < i))
  | .ge, i, j => some (decide (j ≤ i))
  | _, _, _ => none
def cmpO (o : Cop) (x y : Ev) : Option Bool := match x, y with
  | .d (.int i), .d (.int j) => cmpI o i j
  | .d (.str i), .d (.str j) => if o = .lt then some (decide (i.cps.toList < j.cps.toList)) else none
  | _, _ => none
def cmpD (o : Cop) (x y : Ev) (tab : List Ob) : Option Bool := match o with
  | .eq => (match datOf tab x, datOf tab y with
    | some a, some b => if okD 12 a && okD 12 b then some (eqD a b) else none
    | _, _ => none)
  | .ne => (match datOf tab x, datOf tab y with
    | some a, some b => if okD 12 a && okD 12 b then some (!eqD a b) else none
    | _, _ => none)
  | .in_ => (match datOf tab x, datOf tab y with
    | some a, some (.lst ys) => if okD 12 a && ys.all (okD 11) then some (ys.any fun z => eqD z a) else none
    | some a, some (.tup ys) => if flatD a && ys.all flatD then some (ys.any fun z => eqD z a) else none
    | some (.str a), some (.str b) => some (!(Builtin.Str.occurrences b a 0 b.length 1).isEmpty)
    | _, _ => none)
  | .ni => (match datOf tab x, datOf tab y with
    | some a, some (.lst ys) => if okD 12 a && ys.all (okD 11) then some (!ys.any fun z => eqD z a) else none
    | some a, some (.tup ys) => if flatD a && ys.all flatD then some (!ys.any fun z => eqD z a) else none
    | some (.str a), some (.str b) => some (!(!(Builtin.Str.occurrences b a 0 b.length 1).isEmpty))
    | _, _ => none)
  | o => cmpO o x y
def intsOf : List D → Option (List Int)
  | [] => some []
  | .int i :: r => (intsOf r).map (i :: ·)
  | _ :: _ => none
def blsOf : List D → Option (List Bool)
  | [] => some []
  | .bl i :: r => (blsOf r).map (i :: ·)
  | _ :: _ => none
def insB {α : Type} (le : α → α → Bool) (x : α) : List α → List α
  | [] => [x]
  | y :: r => if le x y then x :: y :: r else y :: insB le x r
def isort {α : Type} (le : α → α → Bool) (l : List α) : List α := l.foldr (insB le) []
def sortI (l : List Int) : List Int := isort (fun i j => decide (i ≤ j)) l
def pairsOf : List D → Option (List (Int × Int))
  | [] => some []
  | .tup [.int i, .int j] :: r => (pairsOf r).map ((i, j) :: ·)
  | _ :: _ => none
def leP (p q : Int × Int) : Bool := decide (p.1 < q.1) || (decide (p.1 = q.1) && decide (p.2 ≤ q.2))
def sortP (l : List (Int × Int)) : List (Int × Int) := isort leP l
def prD2 (p : Int × Int) : D := .tup [.int p.1, .int p.2]
def biD (b : Bi) (es : List Ev) (tab : List Ob) : Option Ev := match b, es with
  | .len, [e] => (match seqOf tab e with
    | some xs => some (.d (.int xs.length))
    | none => (match e with
      | .d (.str x) => if x.length ≤ lim then some (.d (.int x.length)) else none
      | _ => none))
  | .sum, [e] => (match seqOf tab e with
    | some xs => (intsOf xs).map fun ns => .d (.int ns.sum)
    | none => none)
  | .all, [e] => (match lstOf tab e with
    | some xs => (blsOf xs).map fun ns => .d (.bl (ns.all id))
    | none => none)
  | .any, [e] => (match lstOf tab e with
    | some xs => (blsOf xs).map fun ns => .d (.bl (ns.any id))
    | none => none)
  | .tuple, [.d (.kt _)] => none
  | .tuple, [e] => (seqOf tab e).map fun xs => .d (.tup xs)
  | .list, [e] => (seqOf tab e).map fun xs => .o xs
  | .int, [.d (.int i)] => some (.d (.int i))
  | .int, [.d (.bl k)] => some (.d (.int (if k then 1 else 0)))
  | .str, [.d (.int i)] => if i64 i then some (.d (.str (toString i))) else none
  | .min, [.d (.int i), .d (.int j)] => some (.d (.int (if j < i then j else i)))
  | .max, [.d (.int i), .d (.int j)] => some (.d (.int (if j > i then j else i)))
  | .sorted, [e] => (match lstOf tab e with
    | some xs => (match intsOf xs with
      | some ns => some (.o ((sortI ns).map D.int))
      | none => (pairsOf xs).map fun ps => .o ((sortP ps).map prD2))
    | none => none)
  | _, _ => none
def isT (tab : List Ob) : Ev → Ty → Option Bool
  | .d .non, _ => some false
  | .d (.bl _), .bool => some true
  | .d (.bl _), .int => some true
  | .d (.bl _), _ => some false
  | .d (.int _), .int => some true
  | .d (.int _), _ => some false
  | .d (.str _), .str => some true
  | .d (.str _), _ => some false
  | .d (.tup _), .tuple => some true
  | .d (.tup _), _ => some false
  | .d (.lst _), .list => some true
  | .d (.lst _), _ => some false
  | .o _, .list => some true
  | .o _, _ => some false
  | _, _ => none
def anyT (tab : List Ob) (e : Ev) : List Ty → Option Bool
  | [] => some false
  | T :: r => (isT tab e T).bind fun b => if b then some true else anyT tab e r
def ixD (x y : Ev) (tab : List Ob) : Option Ev := match y with
  | .d (.int i) => (match seqOf tab x with
    | some xs => (atI xs i).map Ev.d
    | none => (match x with
      | .d (.str z) => if z.length ≤ lim then (atI z.cps.toList i).map fun c => .d (.str ⟨#[c]⟩) else none
      | _ => none))
  | _ => none
def cutD (xs : List D) (lo hi : Option Int) : List D := (xs.drop (HT.sIx xs.length 0 lo)).take (HT.sIx xs.length xs.length hi - HT.sIx xs.length 0 lo)
def slD (x : Ev) (lo hi : Option Int) (tab : List Ob) : Option Ev := match x with
  | .d (.tup xs) => some (.d (.tup (cutD xs lo hi)))
  | x => (lstOf tab x).map fun xs => .o (cutD xs lo hi)
def partD : Option Ev → Option (Option Int)
  | none => some none
  | some (.d (.int i)) => some (some i)
  | _ => none
/-- what a loop goes over -/
def itemsOf (tab : List Ob) : Ev → Option (List D)
  | .o xs => some xs
  | .d (.lst xs) => some xs
  | .d (.tup xs) => some xs
  | .d (.kl xs) => some xs
  | .d (.kt xs) => some xs
  | .d (.str x) => some (x.cps.toList.map fun c => .str ⟨#[c]⟩)
  | _ => none
/-- a list: owned, or data -/
def isL : Ev → Bool
  | .o _ => true
  | .d (.lst _) => true
  | .d (.kl _) => true
  | _ => false
def isTp : Ev → Bool
  | .d (.tup _) => true
  | .d (.kt _) => true
  | _ => false
def enumD (xs : List D) : List D := (xs.zipIdx).map fun p => .tup [.int (p.2 : Nat), p.1]
def zipD (xs ys : List D) : List D := (xs.zip ys).map fun p => .tup [p.1, p.2]
def rngD (lo hi : Int) : List D := (List.range (hi - lo).toNat).map fun (i : Nat) => .int (lo + i)

/-! ### targets -/
mutual
def bindG : Tg → D → Env → Option Env
  | .name i, x, env => if i < env.length then some (env.set i (some (.d x))) else none
  | .tup gs, .tup xs, env => bindGs gs xs env
  | _, _, _ => none
def bindGs : Tgs → List D → Env → Option Env
  | .nil, [], env => some env
  | .cons g r, x :: xs, env => (bindG g x env).bind fun env => bindGs r xs env
  | _, _, _ => none
end
def wipeE (env : Env) : List Nat → Env
  | [] => env
  | v :: vs => (wipeE env vs).set v none

/-! ### expressions -/
inductive Bo
  | sl (i : Nat) | ev (e : Ev)
def rsv (s : S) : Bo → Option Ev
  | .sl i => (s.env[i]?).join
  | .ev e => some e
def Exs.len : Exs → Nat
  | .nil => 0
  | .cons _ r => r.len + 1
def isNon : Ev → Bool
  | .d .non => true
  | _ => false
def toBl : Ev → Option Bool
  | .d (.bl b) => some b
  | _ => none
def rsvs (s : S) : List Bo → Option (List Ev)
  | [] => some []
  | b :: r => (rsv s b).bind fun e => (rsvs s r).map (e :: ·)
def varOf (i : Nat) (s : S) : R Ev := match (s.env[i]?).join with
  | some e => .ok (.d e.toD) { s with env := s.env.set i (some (.d e.toD)) }
  | none => .st
def mvOf (i : Nat) (s : S) : R Ev := match (s.env[i]?).join with
  | some e => .ok e { s with env := s.env.set i none }
  | none => .st
/-- a source that a loop goes over: taken out of its slot for so long -/
def borOf (i : Nat) (s : S) : R (Ev × Option Nat) := match (s.env[i]?).join with
  | some (.d x) => .ok (.d x, none) s
  | some e => .ok (e, some i) { s with env := s.env.set i none }
  | none => .st
def giveBack : List (Ev × Option Nat) → Env → Option Env
  | [], env => some env
  | (_, none) :: r, env => giveBack r env
  | (e, some i) :: r, env => (match env[i]? with
    | some none => giveBack r (env.set i (some e))
    | _ => none)
def popAt (i : Nat) (xs : List D) (j : Int) (s : S) : R Ev := if -4611686018427387904 ≤ j ∧ j < 4611686018427387904 then (match ixN xs.length j with
  | some n => (match xs[n]? with
    | some y => .ok (.d y) { s with env := s.env.set i (some (.o (xs.eraseIdx n))) }
    | none => .st)
  | none => .st) else .st
def compEnd (src : List (Ev × Option Nat)) (acc : List D) (s : S) : R Ev := match giveBack src s.env with
  | some env => .ok (.o acc) { s with env := env }
  | none => .st
structure Src where
  its : List D
  src : List (Ev × Option Nat)
def loopC (bd : D → Env → Option Env) (own : List Nat) (fc : S → R Bool) (fe : S → R Ev) : List D → List D → S → R (List D)
  | [], acc, s => .ok acc { s with env := wipeE s.env own }
  | x :: xs, acc, s => (match bd x (wipeE s.env own) with
    | some env => (match fc { s with env := env } with
      | .ok true s => (match fe s with
        | .ok y s => loopC bd own fc fe xs (acc ++ [y.toD]) s
        | _ => .st)
      | .ok false s => loopC bd own fc fe xs acc s
      | _ => .st)
    | none => .st)
def bo (e : Ex) (f : S → R Ev) (s : S) : R Bo := match e with
  | .var i => (match (s.env[i]?).join with
    | some _ => .ok (.sl i) s
    | none => .st)
  | _ => (f s).bind fun x s => .ok (.ev x) s
def pto (e : Ex) (f : S → R Ev) (s : S) : R (Option Int) := match e with
  | .nop => .ok none s
  | _ => (f s).bind fun x s => (match x with
    | .d (.int i) => .ok (some i) s
    | _ => .st)
def cto (c : Ex) (f : S → R Ev) (s : S) : R Bool := match c with
  | .nop => .ok true s
  | _ => (f s).bind fun x s => .ofO (toBl x) s
def so (e : Ex) (f : S → R Ev) (s : S) : R (Ev × Option Nat) := match e with
  | .bor i => borOf i s
  | _ => (f s).bind fun x s => .ok (x, none) s
mutual
def eval (k : Kt) : Ex → S → R Ev
  | .var i, s => varOf i s
  | .mv i, s => mvOf i s
  | .bor _, _ => .st
  | .non, s => .ok (.d .non) s
  | .bl b, s => .ok (.d (.bl b)) s
  | .int i, s => .ok (.d (.int i)) s
  | .str x, s => .ok (.d (.str x)) s
  | .glob x, s => (match k.con x with
    | some d => .ok (.d d) s
    | none => .st)
  | .op o a b, s => (bo a (eval k a) s).bind fun x s => (bo b (eval k b) s).bind fun y s => (match rsv s x, rsv s y with
    | some x, some y => .ofO (binD o x y s.tab) s
    | _, _ => .st)
  | .neg a, s => (eval k a s).bind fun x s => (match x with
    | .d (.int i) => .ok (.d (.int (-i))) s
    | _ => .st)
  | .cmp o a b, s => (bo a (eval k a) s).bind fun x s => (bo b (eval k b) s).bind fun y s => (match rsv s x, rsv s y with
    | some x, some y => .ofO ((cmpD o x y s.tab).map fun b => .d (.bl b)) s
    | _, _ => .st)
  | .chain o1 o2 a b c, s => (bo a (eval k a) s).bind fun x s => (eval k b s).bind fun y s => (match rsv s x, y with
    | some x, .d y => (match cmpD o1 x (.d y) s.tab with
      | some true => (bo c (eval k c) s).bind fun z s => (match rsv s z with
        | some z => .ofO ((cmpD o2 (.d y) z s.tab).map fun b => .d (.bl b)) s
        | none => .st)
      | some false => .ok (.d (.bl false)) s
      | none => .st)
    | _, _ => .st)
  | .isN n a, s => (eval k a s).bind fun x s => .ok (.d (.bl (if n then !isNon x else isNon x))) s
  | .and_ a b, s => (eval k a s).bind fun x s => (match toBl x with
    | some true => (eval k b s).bind fun y s => (match toBl y with
      | some b => .ok (.d (.bl b)) s
      | none => .st)
    | some false => .ok (.d (.bl false)) s
    | none => .st)
  | .or_ a b, s => (eval k a s).bind fun x s => (match toBl x with
    | some false => (eval k b s).bind fun y s => (match toBl y with
      | some b => .ok (.d (.bl b)) s
      | none => .st)
    | some true => .ok (.d (.bl true)) s
    | none => .st)
  | .not_ a, s => (eval k a s).bind fun x s => (match toBl x with
    | some b => .ok (.d (.bl (!b))) s
    | none => .st)
  | .ite_ c a b, s => (eval k c s).bind fun x s => (match toBl x with
    | some true => eval k a s
    | some false => eval k b s
    | none => .st)
  | .tup es, s => (evals k es s).bind fun xs s => if xs.length ≤ lim then .ok (.d (.tup xs)) s else .st
  | .lst es, s => (evals k es s).bind fun xs s => if xs.length ≤ lim then .ok (.o xs) s else .st
  | .ix a b, s => (bo a (eval k a) s).bind fun x s => (bo b (eval k b) s).bind fun y s => (match rsv s x, rsv s y with
    | some x, some y => .ofO (ixD x y s.tab) s
    | _, _ => .st)
  | .sl a lo hi, s => (bo a (eval k a) s).bind fun x s => (pto lo (eval k lo) s).bind fun l s => (pto hi (eval k hi) s).bind fun h s => (match rsv s x with
    | some x => .ofO (slD x l h s.tab) s
    | none => .st)
  | .nop, _ => .st
  | .call f es, s => (evals k es s).bind fun xs s => (match k.call f xs s.tab with
    | .ok e tab => .ok e { s with tab := tab }
    | .ex x tab => .ex x { s with tab := tab }
    | .st => .st)
  | .bi b es, s => (evbs k es s).bind fun xs s => (match rsvs s xs with
    | some xs => .ofO (biD b xs s.tab) s
    | none => .st)
  | .isi a T, s => (bo a (eval k a) s).bind fun x s => (match rsv s x with
    | some x => .ofO ((isT s.tab x T).map fun b => .d (.bl b)) s
    | none => .st)
  | .isit a Ts, s => (bo a (eval k a) s).bind fun x s => (match rsv s x with
    | some x => if 0 < Ts.length ∧ Ts.length ≤ 100 then .ofO ((anyT s.tab x Ts).map fun b => .d (.bl b)) s else .st
    | none => .st)
  | .comp own g it c e, s => (evIt k it s).bind fun w s =>
      if w.its.length ≤ lim then
        (loopC (bindG g) (own.map (·.2)) (cto c (eval k c)) (eval k e) w.its [] s).bind (compEnd w.src)
      else .st
  | .pop i e, s => (match (s.env[i]?).join with
    | some (.o _) => (eval k e s).bind fun x s => (match x, (s.env[i]?).join with
      | .d (.int j), some (.o xs) => popAt i xs j s
      | _, _ => .st)
    | _ => .st)
  | .share e, s => (eval k e s).bind fun x s => (match x with
    | .o xs => .ok (.d (.ref s.tab.length)) { s with tab := s.tab ++ [.lst xs] }
    | .od ks xs => .ok (.d (.ref s.tab.length)) { s with tab := s.tab ++ [.dic ks xs] }
    | .d _ => .st)
def evals (k : Kt) : Exs → S → R (List D)
  | .nil, s => .ok [] s
  | .cons e r, s => (eval k e s).bind fun x s => (evals k r s).bind fun xs s => .ok (x.toD :: xs) s
def evbs (k : Kt) : Exs → S → R (List Bo)
  | .nil, s => .ok [] s
  | .cons e r, s => (bo e (eval k e) s).bind fun x s => (evbs k r s).bind fun xs s => .ok (x :: xs) s
def evIt (k : Kt) : Gen → S → R Src
  | .seq e, s => (so e (eval k e) s).bind fun x s => .ofO ((itemsOf s.tab x.1).map fun xs => ⟨xs, [x]⟩) s
  | .enum e, s => (so e (eval k e) s).bind fun x s => if isL x.1 || isTp x.1 then .ofO ((itemsOf s.tab x.1).map fun xs => ⟨enumD xs, [x]⟩) s else .st
  | .zip a b, s => (so a (eval k a) s).bind fun x s => (so b (eval k b) s).bind fun y s => (match itemsOf s.tab x.1, itemsOf s.tab y.1 with
    | some xs, some ys => if (isL x.1 && isL y.1) || (isTp x.1 && isTp y.1) then .ok ⟨zipD xs ys, [y, x]⟩ s else .st
    | _, _ => .st)
  | .rng1 a, s => (eval k a s).bind fun x s => (match x with
    | .d (.int j) => if -4611686018427387904 ≤ j ∧ j < 4611686018427387904 then .ok ⟨rngD 0 j, []⟩ s else .st
    | _ => .st)
  | .rng2 a b, s => (eval k a s).bind fun x s => (eval k b s).bind fun y s => (match x, y with
    | .d (.int i), .d (.int j) => if -4611686018427387904 ≤ i ∧ i < 4611686018427387904 ∧ -4611686018427387904 ≤ j ∧ j < 4611686018427387904 then .ok ⟨rngD i j, []⟩ s else .st
    | _, _ => .st)
end
def evalsE (k : Kt) : Exs → S → R (List Ev)
  | .nil, s => .ok [] s
  | .cons e r, s => (eval k e s).bind fun x s => (evalsE k r s).bind fun xs s => .ok (x :: xs) s

/-! ### statements -/
def wfuel : Nat := 1000000000
def whileL (fc : S → R Bool) (fb : S → F) : Nat → S → F
  | 0, _ => .st
  | n + 1, s => (match fc s with
    | .ok true s => (match fb s with
      | .nx s => whileL fc fb n s
      | .ct s => whileL fc fb n s
      | .bk s => .nx s
      | f => f)
    | .ok false s => .nx s
    | .ex x s => .ex x s
    | .st => .st)
def forL (bd : D → Env → Option Env) (fb : S → F) : List D → S → F
  | [], s => .nx s
  | x :: xs, s => (match bd x s.env with
    | some env => (match fb { s with env := env } with
      | .nx s => forL bd fb xs s
      | .ct s => forL bd fb xs s
      | .bk s => .nx s
      | f => f)
    | none => .st)
def setAll : List Nat → List Ev → Env → Option Env
  | [], [], env => some env
  | i :: is, e :: es, env => if i < env.length then setAll is es (env.set i (some e)) else none
  | _, _, _ => none
def tst (k : Kt) (c : Ex) (s : S) : R Bool := (eval k c s).bind fun x s => .ofO (toBl x) s
/-- a list that is written: in a slot, or shared -/
def putL (x : Bo) (s : S) (f : List D → Option (List D)) : F := match x with
  | .sl i => (match (s.env[i]?).join with
    | some (.o xs) => (match f xs with
      | some ys => .nx { s with env := s.env.set i (some (.o ys)) }
      | none => .st)
    | some (.d (.ref n)) => (match s.tab[n]? with
      | some (.lst xs) => (match f xs with
        | some ys => .nx { s with tab := s.tab.set n (.lst ys) }
        | none => .st)
      | _ => .st)
    | _ => .st)
  | .ev (.d (.ref n)) => (match s.tab[n]? with
    | some (.lst xs) => (match f xs with
      | some ys => .nx { s with tab := s.tab.set n (.lst ys) }
      | none => .st)
    | _ => .st)
  | _ => .st
def setAt (k : Ev) (y : D) (xs : List D) : Option (List D) := match k with
  | .d (.int i) => (ixN xs.length i).map fun j => xs.set j y
  | _ => none
def augI : Bop → Int → Int → Option Int
  | .add, a, b => some (a + b)
  | .sub, a, b => some (a - b)
  | _, _, _ => none
mutual
def exec (k : Kt) : Sm → S → F
  | .asg g e, s => (eval k e s).bindF fun x s => (match g, x with
    | .name i, x => if i < s.env.length then .nx { s with env := s.env.set i (some x) } else .st
    | g, .d x => (match bindG g x s.env with
      | some env => .nx { s with env := env }
      | none => .st)
    | _, _ => .st)
  | .par is es, s => (evalsE k es s).bindF fun xs s => (match setAll is xs s.env with
    | some env => .nx { s with env := env }
    | none => .st)
  | .aug i o e, s => (match (s.env[i]?).join with
    | some _ => (eval k e s).bindF fun y s => (match (s.env[i]?).join, y with
      | some (.d (.int a)), .d (.int b) => (match augI o a b with
        | some k => .nx { s with env := s.env.set i (some (.d (.int k))) }
        | none => .st)
      | _, _ => .st)
    | none => .st)
  | .setIx b i e, s => (eval k e s).bindF fun y s => (bo b (eval k b) s).bindF fun x s => (eval k i s).bindF fun j s => putL x s (setAt j y.toD)
  | .augIx b i o e, s => (bo b (eval k b) s).bindF fun x s => (eval k i s).bindF fun j s => (match (rsv s x).bind (lstOf s.tab), j with
    | some xs, .d (.int n) => (match atI xs n with
      | some (.int a) => (eval k e s).bindF fun y s => (match y with
        | .d (.int b) => (match augI o a b with
          | some c => putL x s (setAt (.d (.int n)) (.int c))
          | none => .st)
        | _ => .st)
      | _ => .st)
    | _, _ => .st)
  | .append b e, s => (bo b (eval k b) s).bindF fun x s => (match (rsv s x).bind (lstOf s.tab) with
    | some _ => (eval k e s).bindF fun y s => putL x s fun xs => if xs.length < lim then some (xs ++ [y.toD]) else none
    | none => .st)
  | .expr e, s => (eval k e s).bindF fun _ s => .nx s
  | .ret e, s => (eval k e s).bindF fun x s => .rt x s
  | .retN, s => .rt (.d .non) s
  | .iff c a b, s => (tst k c s).bindF fun t s => if t then execs k a s else execs k b s
  | .for_ g it body, s => (evIt k it s).bindF fun w s => if w.src.all (fun p => p.2.isNone) then forL (bindG g) (fun s => execs k body s) w.its s else .st
  | .while_ c body, s => whileL (tst k c) (fun s => execs k body s) wfuel s
  | .raise C _, s => .ex C s
  | .try_ body hs, s => (match execs k body s with
    | .ex x s => handle k hs x s
    | f => f)
  | .pass, s => .nx s
  | .brk, s => .bk s
  | .cont, s => .ct s
def execs (k : Kt) : Sms → S → F
  | .nil, s => .nx s
  | .cons a r, s => (exec k a s).seq fun s => execs k r s
def handle (k : Kt) : Hds → Str → S → F
  | .nil, x, s => .ex x s
  | .cons C nm body r, x, s => (match k.sub x C with
    | some true => (match nm with
      | none => execs k body s
      | some i => (match execs k body { s with env := s.env.set i none } with
        | .nx s => .nx { s with env := s.env.set i none }
        | .bk s => .bk { s with env := s.env.set i none }
        | .ct s => .ct { s with env := s.env.set i none }
        | .rt e s => .rt e s
        | _ => .st))
    | some false => handle k r x s
    | none => .st)
end

/-! ### defs -/
structure Fn where
  name : Str
  qual : Str
  ps : List Str
  N : List Str
  body : Sms
def startE (n : Nat) (ds : List D) : Env := ds.map (fun d => some (Ev.d d)) ++ List.replicate (n - ds.length) none
def runF (k : Kt) (f : Fn) (ds : List D) (tab : List Ob) : Rc :=
  if ds.length = f.ps.length then (match execs k f.body ⟨startE f.N.length ds, tab⟩ with
    | .nx s => .ok (.d .non) s.tab
    | .rt e s => .ok e s.tab
    | .ex x s => .ex x s.tab
    | _ => .st)
  else .st
structure Prg where
  fns : List Fn
  con : Str → Option D
  sub : Str → Str → Option Bool
def Prg.get (p : Prg) (f : Str) : Option Fn := p.fns.find? fun g => g.name == f
def Prg.call (p : Prg) : Nat → CallT
  | 0 => fun _ _ _ => .st
  | n + 1 => fun f ds tab => (match p.get f with
    | some g => runF ⟨p.call n, p.con, p.sub⟩ g ds tab
    | none => .st)
def Prg.kt (p : Prg) (n : Nat) : Kt := ⟨p.call n, p.con, p.sub⟩
end SH

end
section
set_option Elab.async false
set_option linter.all false
namespace SH
open PySem PySem.Spec L2
theorem eval_var (k : Kt) {i s} : eval k (.var i) s = varOf i s := rfl
theorem eval_mv (k : Kt) {i s} : eval k (.mv i) s = mvOf i s := rfl
theorem eval_bor (k : Kt) {u0 u1} : eval k (.bor u0) u1 = .st := rfl
theorem eval_non (k : Kt) {s} : eval k (.non) s = .ok (.d .non) s := rfl
theorem eval_bl (k : Kt) {b s} : eval k (.bl b) s = .ok (.d (.bl b)) s := rfl
theorem eval_int (k : Kt) {i s} : eval k (.int i) s = .ok (.d (.int i)) s := rfl
theorem eval_str (k : Kt) {x s} : eval k (.str x) s = .ok (.d (.str x)) s := rfl
theorem eval_glob (k : Kt) {x s} : eval k (.glob x) s = (match k.con x with
    | some d => .ok (.d d) s
    | none => .st) := rfl
theorem eval_op (k : Kt) {o a b s} : eval k (.op o a b) s = (bo a (eval k a) s).bind fun x s => (bo b (eval k b) s).bind fun y s => (match rsv s x, rsv s y with
    | some x, some y => .ofO (binD o x y s.tab) s
    | _, _ => .st) := rfl
theorem eval_neg (k : Kt) {a s} : eval k (.neg a) s = (eval k a s).bind fun x s => (match x with
    | .d (.int i) => .ok (.d (.int (-i))) s
    | _ => .st) := rfl
theorem eval_cmp (k : Kt) {o a b s} : eval k (.cmp o a b) s = (bo a (eval k a) s).bind fun x s => (bo b (eval k b) s).bind fun y s => (match rsv s x, rsv s y with
    | some x, some y => .ofO ((cmpD o x y s.tab).map fun b => .d (.bl b)) s
    | _, _ => .st) := rfl
theorem eval_chain (k : Kt) {o1 o2 a b c s} : eval k (.chain o1 o2 a b c) s = (bo a (eval k a) s).bind fun x s => (eval k b s).bind fun y s => (match rsv s x, y with
    | some x, .d y => (match cmpD o1 x (.d y) s.tab with
      | some true => (bo c (eval k c) s).bind fun z s => (match rsv s z with
        | some z => .ofO ((cmpD o2 (.d y) z s.tab).map fun b => .d (.bl b)) s
        | none => .st)
      | some false => .ok (.d (.bl false)) s
      | none => .st)
    | _, _ => .st) := rfl
theorem eval_isN (k : Kt) {n a s} : eval k (.isN n a) s = (eval k a s).bind fun x s => .ok (.d (.bl (if n then !isNon x else isNon x))) s := rfl
theorem eval_and (k : Kt) {a b s} : eval k (.and_ a b) s = (eval k a s).bind fun x s => (match toBl x with
    | some true => (eval k b s).bind fun y s => (match toBl y with
      | some b => .ok (.d (.bl b)) s
      | none => .st)
    | some false => .ok (.d (.bl false)) s
    | none => .st) := rfl
theorem eval_or (k : Kt) {a b s} : eval k (.or_ a b) s = (eval k a s).bind fun x s => (match toBl x with
    | some false => (eval k b s).bind fun y s => (match toBl y with
      | some b => .ok (.d (.bl b)) s
      | none => .st)
    | some true => .ok (.d (.bl true)) s
    | none => .st) := rfl
theorem eval_not (k : Kt) {a s} : eval k (.not_ a) s = (eval k a s).bind fun x s => (match toBl x with
    | some b => .ok (.d (.bl (!b))) s
    | none => .st) := rfl
theorem eval_ite (k : Kt) {c a b s} : eval k (.ite_ c a b) s = (eval k c s).bind fun x s => (match toBl x with
    | some true => eval k a s
    | some false => eval k b s
    | none => .st) := rfl
theorem eval_tup (k : Kt) {es s} : eval k (.tup es) s = (evals k es s).bind fun xs s => if xs.length ≤ lim then .ok (.d (.tup xs)) s else .st := rfl
theorem eval_lst (k : Kt) {es s} : eval k (.lst es) s = (evals k es s).bind fun xs s => if xs.length ≤ lim then .ok (.o xs) s else .st := rfl
theorem eval_ix (k : Kt) {a b s} : eval k (.ix a b) s = (bo a (eval k a) s).bind fun x s => (bo b (eval k b) s).bind fun y s => (match rsv s x, rsv s y with
    | some x, some y => .ofO (ixD x y s.tab) s
    | _, _ => .st) := rfl
theorem eval_sl (k : Kt) {a lo hi s} : eval k (.sl a lo hi) s = (bo a (eval k a) s).bind fun x s => (pto lo (eval k lo) s).bind fun l s => (pto hi (eval k hi) s).bind fun h s => (match rsv s x with
    | some x => .ofO (slD x l h s.tab) s
    | none => .st) := rfl
theorem eval_nop (k : Kt) {u0} : eval k (.nop) u0 = .st := rfl
theorem eval_call (k : Kt) {f es s} : eval k (.call f es) s = (evals k es s).bind fun xs s => (match k.call f xs s.tab with
    | .ok e tab => .ok e { s with tab := tab }
    | .ex x tab => .ex x { s with tab := tab }
    | .st => .st) := rfl
theorem eval_bi (k : Kt) {b es s} : eval k (.bi b es) s = (evbs k es s).bind fun xs s => (match rsvs s xs with
    | some xs => .ofO (biD b xs s.tab) s
    | none => .st) := rfl
theorem eval_isi (k : Kt) {a s} : eval k (.isi a T) s = (bo a (eval k a) s).bind fun x s => (match rsv s x with
    | some x => .ofO ((isT s.tab x T).map fun b => .d (.bl b)) s
    | none => .st) := rfl
theorem eval_isit (k : Kt) {a s} : eval k (.isit a Ts) s = (bo a (eval k a) s).bind fun x s => (match rsv s x with
    | some x => if 0 < Ts.length ∧ Ts.length ≤ 100 then .ofO ((anyT s.tab x Ts).map fun b => .d (.bl b)) s else .st
    | none => .st) := rfl
theorem eval_comp (k : Kt) {own g it c e s} : eval k (.comp own g it c e) s = (evIt k it s).bind fun w s =>
      if w.its.length ≤ lim then
        (loopC (bindG g) (own.map (·.2)) (cto c (eval k c)) (eval k e) w.its [] s).bind (compEnd w.src)
      else .st := rfl
theorem eval_pop (k : Kt) {i e s} : eval k (.pop i e) s = (match (s.env[i]?).join with
    | some (.o _) => (eval k e s).bind fun x s => (match x, (s.env[i]?).join with
      | .d (.int j), some (.o xs) => popAt i xs j s
      | _, _ => .st)
    | _ => .st) := rfl
theorem eval_share (k : Kt) {e s} : eval k (.share e) s = (eval k e s).bind fun x s => (match x with
    | .o xs => .ok (.d (.ref s.tab.length)) { s with tab := s.tab ++ [.lst xs] }
    | .od ks xs => .ok (.d (.ref s.tab.length)) { s with tab := s.tab ++ [.dic ks xs] }
    | .d _ => .st) := rfl
theorem evals_nil (k : Kt) {s} : evals k (.nil) s = .ok [] s := rfl
theorem evals_cons (k : Kt) {e r s} : evals k (.cons e r) s = (eval k e s).bind fun x s => (evals k r s).bind fun xs s => .ok (x.toD :: xs) s := rfl
theorem evbs_nil (k : Kt) {s} : evbs k (.nil) s = .ok [] s := rfl
theorem evbs_cons (k : Kt) {e r s} : evbs k (.cons e r) s = (bo e (eval k e) s).bind fun x s => (evbs k r s).bind fun xs s => .ok (x :: xs) s := rfl
theorem evIt_seq (k : Kt) {e s} : evIt k (.seq e) s = (so e (eval k e) s).bind fun x s => .ofO ((itemsOf s.tab x.1).map fun xs => ⟨xs, [x]⟩) s := rfl
theorem evIt_enum (k : Kt) {e s} : evIt k (.enum e) s = (so e (eval k e) s).bind fun x s => if isL x.1 || isTp x.1 then .ofO ((itemsOf s.tab x.1).map fun xs => ⟨enumD xs, [x]⟩) s else .st := rfl
theorem evIt_zip (k : Kt) {a b s} : evIt k (.zip a b) s = (so a (eval k a) s).bind fun x s => (so b (eval k b) s).bind fun y s => (match itemsOf s.tab x.1, itemsOf s.tab y.1 with
    | some xs, some ys => if (isL x.1 && isL y.1) || (isTp x.1 && isTp y.1) then .ok ⟨zipD xs ys, [y, x]⟩ s else .st
    | _, _ => .st) := rfl
theorem evIt_rng1 (k : Kt) {a s} : evIt k (.rng1 a) s = (eval k a s).bind fun x s => (match x with
    | .d (.int j) => if -4611686018427387904 ≤ j ∧ j < 4611686018427387904 then .ok ⟨rngD 0 j, []⟩ s else .st
    | _ => .st) := rfl
theorem evIt_rng2 (k : Kt) {a b s} : evIt k (.rng2 a b) s = (eval k a s).bind fun x s => (eval k b s).bind fun y s => (match x, y with
    | .d (.int i), .d (.int j) => if -4611686018427387904 ≤ i ∧ i < 4611686018427387904 ∧ -4611686018427387904 ≤ j ∧ j < 4611686018427387904 then .ok ⟨rngD i j, []⟩ s else .st
    | _, _ => .st) := rfl
theorem evalsE_nil (k : Kt) {s} : evalsE k (.nil) s = .ok [] s := rfl
theorem evalsE_cons (k : Kt) {e r s} : evalsE k (.cons e r) s = (eval k e s).bind fun x s => (evalsE k r s).bind fun xs s => .ok (x :: xs) s := rfl
theorem exec_asg (k : Kt) {g e s} : exec k (.asg g e) s = (eval k e s).bindF fun x s => (match g, x with
    | .name i, x => if i < s.env.length then .nx { s with env := s.env.set i (some x) } else .st
    | g, .d x => (match bindG g x s.env with
      | some env => .nx { s with env := env }
      | none => .st)
    | _, _ => .st) := rfl
theorem exec_par (k : Kt) {is es s} : exec k (.par is es) s = (evalsE k es s).bindF fun xs s => (match setAll is xs s.env with
    | some env => .nx { s with env := env }
    | none => .st) := rfl
theorem exec_aug (k : Kt) {i o e s} : exec k (.aug i o e) s = (match (s.env[i]?).join with
    | some _ => (eval k e s).bindF fun y s => (match (s.env[i]?).join, y with
      | some (.d (.int a)), .d (.int b) => (match augI o a b with
        | some k => .nx { s with env := s.env.set i (some (.d (.int k))) }
        | none => .st)
      | _, _ => .st)
    | none => .st) := rfl
theorem exec_setIx (k : Kt) {b i e s} : exec k (.setIx b i e) s = (eval k e s).bindF fun y s => (bo b (eval k b) s).bindF fun x s => (eval k i s).bindF fun j s => putL x s (setAt j y.toD) := rfl
theorem exec_augIx (k : Kt) {b i o e s} : exec k (.augIx b i o e) s = (bo b (eval k b) s).bindF fun x s => (eval k i s).bindF fun j s => (match (rsv s x).bind (lstOf s.tab), j with
    | some xs, .d (.int n) => (match atI xs n with
      | some (.int a) => (eval k e s).bindF fun y s => (match y with
        | .d (.int b) => (match augI o a b with
          | some c => putL x s (setAt (.d (.int n)) (.int c))
          | none => .st)
        | _ => .st)
      | _ => .st)
    | _, _ => .st) := rfl
theorem exec_append (k : Kt) {b e s} : exec k (.append b e) s = (bo b (eval k b) s).bindF fun x s => (match (rsv s x).bind (lstOf s.tab) with
    | some _ => (eval k e s).bindF fun y s => putL x s fun xs => if xs.length < lim then some (xs ++ [y.toD]) else none
    | none => .st) := rfl
theorem exec_expr (k : Kt) {e s} : exec k (.expr e) s = (eval k e s).bindF fun _ s => .nx s := rfl
theorem exec_ret (k : Kt) {e s} : exec k (.ret e) s = (eval k e s).bindF fun x s => .rt x s := rfl
theorem exec_retN (k : Kt) {s} : exec k (.retN) s = .rt (.d .non) s := rfl
theorem exec_iff (k : Kt) {c a b s} : exec k (.iff c a b) s = (tst k c s).bindF fun t s => if t then execs k a s else execs k b s := rfl
theorem exec_for (k : Kt) {g it body s} : exec k (.for_ g it body) s = (evIt k it s).bindF fun w s => if w.src.all (fun p => p.2.isNone) then forL (bindG g) (fun s => execs k body s) w.its s else .st := rfl
theorem exec_while (k : Kt) {c body s} : exec k (.while_ c body) s = whileL (tst k c) (fun s => execs k body s) wfuel s := rfl
theorem exec_raise (k : Kt) {s u0} : exec k (.raise C u0) s = .ex C s := rfl
theorem exec_try (k : Kt) {body hs s} : exec k (.try_ body hs) s = (match execs k body s with
    | .ex x s => handle k hs x s
    | f => f) := rfl
theorem exec_pass (k : Kt) {s} : exec k (.pass) s = .nx s := rfl
theorem exec_brk (k : Kt) {s} : exec k (.brk) s = .bk s := rfl
theorem exec_cont (k : Kt) {s} : exec k (.cont) s = .ct s := rfl
theorem execs_nil (k : Kt) {s} : execs k (.nil) s = .nx s := rfl
theorem execs_cons (k : Kt) {a r s} : execs k (.cons a r) s = (exec k a s).seq fun s => execs k r s := rfl
theorem handle_nil (k : Kt) {x s} : handle k (.nil) x s = .ex x s := rfl
theorem handle_cons (k : Kt) {nm body r x s} : handle k (.cons C nm body r) x s = (match k.sub x C with
    | some true => (match nm with
      | none => execs k body s
      | some i => (match execs k body { s with env := s.env.set i none } with
        | .nx s => .nx { s with env := s.env.set i none }
        | .bk s => .bk { s with env := s.env.set i none }
        | .ct s => .ct { s with env := s.env.set i none }
        | .rt e s => .rt e s
        | _ => .st))
    | some false => handle k r x s
    | none => .st) := rfl
end SH

end
section
set_option Elab.async false
set_option linter.all false
set_option maxRecDepth 100000
set_option maxHeartbeats 1000000
namespace SH
open PySem PySem.Spec L2 PyProof.Rows

/-! ### what the values answer -/
section
variable {K : PySem.W.Frag} {cl : Str → Addr} {Z H : Hp} {al : List Addr} {R : Rt} {tab : List Ob} {v w : V} {x y e : Ev} {xs ys : List D}

theorem lim_eq : lim = sizeLine := by rw [sizeLine_eq]; rfl

theorem AbsAt.obj (A : AbsAt K cl Z al R tab H) {n : Nat} {a : Addr} {ob : Ob} (h : al[n]? = some a) (e : tab[n]? = some ob) : ObAt K cl Z al H a ob := A.tabs n a ob h e
/-- a list that is read -/
theorem lst_ok (A : AbsAt K cl Z al R tab H) (hx : (x, v) ∈ R) (h : lstOf tab x = some xs) : ∃ a vs, v = .ref a ∧ H a = some (.lst vs) ∧ Rps K Z al xs vs := by
  have q := A.roots _ hx
  unfold lstOf at h
  split at h
  · cases h
    cases q with
    | o e1 e2 => exact ⟨_, _, rfl, e1, e2⟩
  · cases h
    cases q with
    | d q =>
      cases q with
      | lst e1 e2 => exact ⟨_, _, rfl, A.same _ _ e1, e2⟩
  · cases q with
    | d q =>
      cases q with
      | ref e1 =>
        split at h
        · rename_i e2
          cases h
          cases A.obj e1 e2 with
          | lst e3 e4 => exact ⟨_, _, rfl, e3, e4⟩
        · cases h
  · cases h
/-- a list or a tuple -/
theorem seq_ok (A : AbsAt K cl Z al R tab H) (hx : (x, v) ∈ R) (h : seqOf tab x = some xs) : ∃ a vs, v = .ref a ∧ (SqL K H a vs ∨ SqT K H a vs) ∧ Rps K Z al xs vs := by
  have q := A.roots _ hx
  unfold seqOf at h
  split at h
  · cases h
    cases q with
    | o e1 e2 => exact ⟨_, _, rfl, .inl (SqL.of e1), e2⟩
  · cases h
    cases q with
    | d q =>
      cases q with
      | lst e1 e2 => exact ⟨_, _, rfl, .inl (SqL.of (A.same _ _ e1)), e2⟩
  · cases h
    cases q with
    | d q =>
      cases q with
      | tup e1 e2 => exact ⟨_, _, rfl, .inr (SqT.of (A.same _ _ e1)), e2⟩
  · cases h
    cases q with
    | d q =>
      cases q with
      | kl e1 e2 => exact ⟨_, _, rfl, .inl (Same.seq A.same e1), e2⟩
  · cases h
    cases q with
    | d q =>
      cases q with
      | kt e1 e2 => exact ⟨_, _, rfl, .inr (seqT_mono A.same e1), e2⟩
  · cases q with
    | d q =>
      cases q with
      | ref e1 =>
        split at h
        · rename_i e2
          cases h
          cases A.obj e1 e2 with
          | lst e3 e4 => exact ⟨_, _, rfl, .inl (SqL.of e3), e4⟩
        · cases h
  · cases h
theorem AbsAt.abs (A : AbsAt K cl Z al R tab H) : Abs K cl R tab H := ⟨Z, al, A⟩
theorem AbsAt.int_ (A : AbsAt K cl Z al R tab H) {i : Int} (h : (Ev.d (.int i), v) ∈ R) : v = .int i := by
  cases A.rp h; rfl
theorem AbsAt.str_ (A : AbsAt K cl Z al R tab H) {i : Str} (h : (Ev.d (.str i), v) ∈ R) : v = .str i := by
  cases A.rp h; rfl
theorem AbsAt.bl_ (A : AbsAt K cl Z al R tab H) {i : Bool} (h : (Ev.d (.bl i), v) ∈ R) : v = .bl i := by
  cases A.rp h; rfl
theorem AbsAt.non_ (A : AbsAt K cl Z al R tab H) (h : (Ev.d .non, v) ∈ R) : v = .non := by
  cases A.rp h; rfl
theorem AbsAt.tup_ (A : AbsAt K cl Z al R tab H) (h : (Ev.d (.tup xs), v) ∈ R) : ∃ a vs, v = .ref a ∧ SqT K H a vs ∧ Rps K Z al xs vs ∧ Z a = some (.tup vs) := by
  cases A.rp h with
  | tup e1 e2 => exact ⟨_, _, rfl, SqT.of (A.same _ _ e1), e2, e1⟩
end

/-! ### operators -/
section
variable {X : Cx}
def opOf : Bop → Operator
  | .add => .Add
  | .sub => .Sub
  | .mul => .Mult
  | .fdiv => .FloorDiv
  | .mod => .Mod
  | .pow => .Pow
def rBin (X : Cx) : Bop → R2
  | .add => fun x y H Q => rI0 (fun i j => .int (i + j)) x y H Q ∨ ((∃ i j, x = .str i ∧ y = .str j ∧ i.length + j.length ≤ sizeLine ∧ Q (.str (i ++ j)) H) ∨ (rCatA X.K x y H Q ∨ rCat x y H Q))
  | .sub => rI0 fun i j => .int (i - j)
  | .mul => fun x y H Q => rI CMul (fun i j => .int (i * j)) x y H Q ∨ rRep x y H Q
  | .fdiv => rI CDivW fun i j => .int (i / j)
  | .mod => rI (fun _ j => 0 < j) fun i j => .int (i % j)
  | .pow => rI CPow fun i j => .int (i ^ j.toNat)
theorem op_bin : ∀ o : Bop, OpR X (binaryOp (opOf o)) (rBin X o)
  | .add => op_add.or (op_add_str.or (op_catA.or op_cat))
  | .sub => op_sub
  | .mul => op_mul.or op_rep
  | .fdiv => op_fdivW
  | .mod => op_mod
  | .pow => op_pow
end
section
variable {X : Cx} {cl : Str → Addr} {Z H : Hp} {al : List Addr} {R : Rt} {tab : List Ob} {v w : V} {x y e : Ev} {xs ys : List D} {Q : VK}

theorem abs_int (A : AbsAt X.K cl Z al R tab H) (i : Int) : Abs X.K cl ((.d (.int i), .int i) :: R) tab H := (A.addD (.int i)).abs
theorem abs_bl (A : AbsAt X.K cl Z al R tab H) (i : Bool) : Abs X.K cl ((.d (.bl i), .bl i) :: R) tab H := (A.addD (.bl i)).abs
theorem abs_str (A : AbsAt X.K cl Z al R tab H) (i : Str) : Abs X.K cl ((.d (.str i), .str i) :: R) tab H := (A.addD (.str i)).abs

theorem i64_ok {i : Int} (h : i64 i = true) : -(2 ^ 64) < i ∧ i < 2 ^ 64 := by
  unfold i64 at h
  simp only [Bool.and_eq_true, decide_eq_true_eq] at h
  constructor <;> omega
theorem i64_nat {i : Int} (h : i64 i = true) : i.natAbs < 2 ^ 64 := by
  have := i64_ok h
  omega
theorem rps_rep {K : PySem.W.Frag} {xs : List D} {vs : List V} (q : Rps K Z al xs vs) : ∀ k : Nat, Rps K Z al (List.replicate k xs).flatten (List.replicate k vs).flatten
  | 0 => .nil
  | k + 1 => by
    rw [List.replicate_succ, List.replicate_succ, List.flatten_cons, List.flatten_cons]
    exact q.append (rps_rep q k)
theorem bin_ok (A : AbsAt X.K cl Z al R tab H) (o : Bop) (hx : (x, v) ∈ R) (hy : (y, w) ∈ R) (h : binD o x y tab = some e) (q : ∀ u H', Abs X.K cl ((e, u) :: R) tab H' → Q u H') : rBin X o v w H Q := by
  unfold binD at h
  split at h
  · rename_i i j
    rw [A.int_ hx, A.int_ hy]
    cases ho : binI o i j with
    | none => rw [ho] at h; cases h
    | some k =>
      rw [ho] at h
      cases h
      have qk := q (.int k) H (abs_int A k)
      cases o with
      | add => cases ho; exact .inl ⟨_, _, rfl, rfl, qk⟩
      | sub => cases ho; exact ⟨_, _, rfl, rfl, qk⟩
      | mul =>
        simp only [binI] at ho
        split at ho
        · rename_i hc
          cases ho
          refine .inl ⟨_, _, rfl, rfl, ?_, qk⟩
          rcases Bool.or_eq_true_iff.mp hc with z | z
          · exact .inl (i64_ok z)
          · exact .inr (i64_ok z)
        · cases ho
      | fdiv =>
        simp only [binI] at ho
        split at ho
        · rename_i hc
          cases ho
          exact ⟨_, _, rfl, rfl, wide_div (b := 64) hc.1 (by omega) (by decide) (by decide), qk⟩
        · cases ho
      | mod =>
        simp only [binI] at ho
        split at ho
        · rename_i hc
          cases ho
          exact ⟨_, _, rfl, rfl, hc, qk⟩
        · cases ho
      | pow =>
        simp only [binI] at ho
        split at ho
        · rename_i hc
          cases ho
          exact ⟨_, _, rfl, rfl, ⟨hc.1, by omega, i64_nat hc.2.2⟩, qk⟩
        · cases ho
  · split at h
    · rename_i hc
      obtain ⟨ho, hl⟩ := hc
      cases h
      subst ho
      rw [A.str_ hx, A.str_ hy]
      exact .inr (.inl ⟨_, _, rfl, rfl, by rw [← lim_eq]; exact hl, q _ H (abs_str A _)⟩)
    · cases h
  · split at h
    · rename_i hc
      obtain ⟨ho, hl⟩ := hc
      cases h
      subst ho
      obtain ⟨a, vs, rfl, sa, ra, za⟩ := A.tup_ hx
      obtain ⟨b, us, rfl, sb, rb, zb⟩ := A.tup_ hy
      have l1 := ra.length
      have l2 := rb.length
      refine .inr (.inr (.inl ⟨a, b, vs, us, rfl, rfl, sa, sb, by rw [← lim_eq]; omega, fun e => ?_, fun _ e => ?_, fun _ _ p hp => ?_⟩))
      · subst e
        cases ra
        exact q _ H (A.addD (.tup zb rb)).abs
      · subst e
        cases rb
        rw [List.append_nil] at q
        exact q _ H (A.addD (.tup za ra)).abs
      · exact q _ _ (A.newTup hp (ra.append rb)).abs
    · cases h
  · split at h
    · rename_i xs hl
      split at h
      · rename_i hc
        obtain ⟨ho, h1, h2, h3⟩ := hc
        cases h
        subst ho
        obtain ⟨a, vs, rfl, ha, ra⟩ := lst_ok A hx hl
        rw [A.int_ hy]
        have l1 := ra.length
        refine .inr ⟨a, _, vs, rfl, rfl, ha, ?_, ?_, by rw [← lim_eq, ← l1]; exact h3, fun p hp => ?_⟩
        · unfold lim at h2; omega
        · unfold lim at h1; omega
        · exact q _ _ (A.newLst hp (rps_rep ra _)).abs
      · cases h
    · cases h
  · split at h
    · rename_i xs ys hl1 hl2
      split at h
      · rename_i hc
        obtain ⟨ho, h3⟩ := hc
        cases h
        subst ho
        obtain ⟨a, vs, rfl, ha, ra⟩ := lst_ok A hx hl1
        obtain ⟨b, us, rfl, hb, rb⟩ := lst_ok A hy hl2
        have l1 := ra.length
        have l2 := rb.length
        exact .inr (.inr (.inr ⟨a, b, vs, us, rfl, rfl, ha, hb, by rw [← lim_eq]; omega, fun p hp => q _ _ (A.newLst hp (ra.append rb)).abs⟩))
      · cases h
    · cases h
end

/-! ### data that is compared -/
mutual
def pyD : D → PyData
  | .non => .none
  | .bl b => .bool b
  | .int i => .int i
  | .str x => .str x
  | .tup xs => .tuple (pyDs xs)
  | .lst xs => .list (pyDs xs)
  | .kl xs => .none
  | .kt xs => .none
  | .dic _ _ => .none
  | .ref _ => .none
def pyDs : List D → List PyData
  | [] => []
  | x :: xs => pyD x :: pyDs xs
end
theorem pyDs_eq : ∀ xs : List D, pyDs xs = xs.map pyD
  | [] => by simp only [pyDs]; rfl
  | x :: xs => by simp only [pyDs, List.map_cons]; rw [pyDs_eq xs]
theorem okD_shape : ∀ (n : Nat) (x : D), okD n x = true → (pyD x).canLay0 = true ∧ (pyD x).depth ≤ n
  | n, .non, _ => by simp [pyD, PyData.canLay0, PyData.depth]
  | n, .bl _, _ => by simp [pyD, PyData.canLay0, PyData.depth]
  | n, .int _, _ => by simp [pyD, PyData.canLay0, PyData.depth]
  | n, .str x, h => by
    have h' : PyData.strOk x = true := by cases n <;> exact h
    simp [pyD, PyData.canLay0, PyData.depth, h']
  | 0, .tup _, h => by simp [okD] at h
  | 0, .lst _, h => by simp [okD] at h
  | 0, .kl _, h => by simp [okD] at h
  | 0, .kt _, h => by simp [okD] at h
  | n + 1, .kt _, h => by simp [okD] at h
  | 0, .dic _ _, h => by simp [okD] at h
  | 0, .ref _, h => by simp [okD] at h
  | n + 1, .kl _, h => by simp [okD] at h
  | n + 1, .dic _ _, h => by simp [okD] at h
  | n + 1, .ref _, h => by simp [okD] at h
  | n + 1, .tup xs, h => by
    have h' : xs.all (okD n) = true := h
    have q : ∀ ys : List D, ys.all (okD n) = true → PyData.canLayAll0 (pyDs ys) = true ∧ PyData.depthAll (pyDs ys) ≤ n := by
      intro ys
      induction ys with
      | nil => intro _; simp [pyDs, PyData.canLayAll0, PyData.depthAll]
      | cons y ys ih =>
        intro hy
        rw [List.all_cons, Bool.and_eq_true] at hy
        obtain ⟨a1, a2⟩ := okD_shape n y hy.1
        obtain ⟨b1, b2⟩ := ih hy.2
        simp only [pyDs, PyData.canLayAll0, PyData.depthAll, a1, b1, Bool.and_self, true_and]
        omega
    obtain ⟨a, b⟩ := q xs h'
    simp only [pyD, PyData.canLay0, PyData.depth, a, true_and]
    omega
  | n + 1, .lst xs, h => by
    have h' : xs.all (okD n) = true := h
    have q : ∀ ys : List D, ys.all (okD n) = true → PyData.canLayAll0 (pyDs ys) = true ∧ PyData.depthAll (pyDs ys) ≤ n := by
      intro ys
      induction ys with
      | nil => intro _; simp [pyDs, PyData.canLayAll0, PyData.depthAll]
      | cons y ys ih =>
        intro hy
        rw [List.all_cons, Bool.and_eq_true] at hy
        obtain ⟨a1, a2⟩ := okD_shape n y hy.1
        obtain ⟨b1, b2⟩ := ih hy.2
        simp only [pyDs, PyData.canLayAll0, PyData.depthAll, a1, b1, Bool.and_self, true_and]
        omega
    obtain ⟨a, b⟩ := q xs h'
    simp only [pyD, PyData.canLay0, PyData.depth, a, true_and]
    omega
theorem okD_shaped {n : Nat} {x : D} (hn : n ≤ 64) (h : okD n x = true) : SeqAt.shaped (pyD x) = true := by
  obtain ⟨a, b⟩ := okD_shape n x h
  unfold SeqAt.shaped
  rw [a, Bool.true_and, decide_eq_true_eq]
  omega
mutual
theorem eqD_py : ∀ (n : Nat) (x y : D), okD n x = true → okD n y = true → PyData.eqv (pyD x) (pyD y) = eqD x y
  | n, .non, y, _, hy => by cases y <;> first | rfl | (cases n <;> simp [okD] at hy) | simp [pyD, PyData.eqv, eqD]
  | n, .bl a, y, _, hy => by cases y <;> first | rfl | (cases n <;> simp [okD] at hy) | simp [pyD, PyData.eqv, eqD]
  | n, .int a, y, _, hy => by cases y <;> first | rfl | (cases n <;> simp [okD] at hy) | simp [pyD, PyData.eqv, eqD]
  | n, .str a, y, _, hy => by cases y <;> first | rfl | (cases n <;> simp [okD] at hy) | simp [pyD, PyData.eqv, eqD]
  | 0, .tup _, _, h, _ => by simp [okD] at h
  | 0, .lst _, _, h, _ => by simp [okD] at h
  | n, .kl _, _, h, _ => by cases n <;> simp [okD] at h
  | n, .kt _, _, h, _ => by cases n <;> simp [okD] at h
  | n, .dic _ _, _, h, _ => by cases n <;> simp [okD] at h
  | n, .ref _, _, h, _ => by cases n <;> simp [okD] at h
  | n + 1, .tup xs, y, h, hy => by
    cases y with
    | tup ys =>
      simp only [pyD, PyData.eqv, eqD]
      exact eqDs_py n xs ys h hy
    | _ => first | (simp [pyD, PyData.eqv, eqD]; done) | (simp [okD] at hy; done)
  | n + 1, .lst xs, y, h, hy => by
    cases y with
    | lst ys =>
      simp only [pyD, PyData.eqv, eqD]
      exact eqDs_py n xs ys h hy
    | _ => first | (simp [pyD, PyData.eqv, eqD]; done) | (simp [okD] at hy; done)
theorem eqDs_py : ∀ (n : Nat) (xs ys : List D), xs.all (okD n) = true → ys.all (okD n) = true → PyData.eqvAll (pyDs xs) (pyDs ys) = eqDs xs ys
  | n, [], [], _, _ => by simp [pyDs, PyData.eqvAll, eqDs]
  | n, [], y :: ys, _, _ => by simp [pyDs, PyData.eqvAll, eqDs]
  | n, x :: xs, [], _, _ => by simp [pyDs, PyData.eqvAll, eqDs]
  | n, x :: xs, y :: ys, h, hy => by
    rw [List.all_cons, Bool.and_eq_true] at h hy
    simp only [pyDs, PyData.eqvAll, eqDs]
    rw [eqD_py n x y h.1 hy.1, eqDs_py n xs ys h.2 hy.2]
end
section
variable {K : PySem.W.Frag} {Z H : Hp} {al : List Addr}
mutual
theorem rp_dp (hs : Same Z H) : ∀ (n : Nat) (x : D) (v : V), okD n x = true → Rp K Z al x v → Dp K H v (pyD x)
  | _, .non, _, _, q => by cases q; simp only [pyD]; exact .non
  | _, .bl b, _, _, q => by cases q; simp only [pyD]; exact .bl b
  | _, .int b, _, _, q => by cases q; simp only [pyD]; exact .int b
  | _, .str b, _, _, q => by cases q; simp only [pyD]; exact .str b
  | 0, .tup _, _, h, _ => by simp [okD] at h
  | 0, .lst _, _, h, _ => by simp [okD] at h
  | n, .kl _, _, h, _ => by cases n <;> simp [okD] at h
  | n, .kt _, _, h, _ => by cases n <;> simp [okD] at h
  | n, .dic _ _, _, h, _ => by cases n <;> simp [okD] at h
  | n, .ref _, _, h, _ => by cases n <;> simp [okD] at h
  | n + 1, .tup xs, v, h, q => by
    cases q with
    | tup e1 e2 =>
      simp only [pyD]
      exact .tup (SqT.of (hs _ _ e1)) (rps_dp hs n xs _ h e2)
  | n + 1, .lst xs, v, h, q => by
    cases q with
    | lst e1 e2 =>
      simp only [pyD]
      exact .lst (SqL.of (hs _ _ e1)) (rps_dp hs n xs _ h e2)
theorem rps_dp (hs : Same Z H) : ∀ (n : Nat) (xs : List D) (vs : List V), xs.all (okD n) = true → Rps K Z al xs vs → DpAll K H vs (pyDs xs)
  | _, [], _, _, q => by cases q; simp only [pyDs]; exact .nil
  | n, x :: xs, _, h, q => by
    cases q with
    | cons q1 q2 =>
      rw [List.all_cons, Bool.and_eq_true] at h
      simp only [pyDs]
      exact .cons (rp_dp hs n x _ h.1 q1) (rps_dp hs n xs _ h.2 q2)
end
end
section
variable {K : PySem.W.Frag} {cl : Str → Addr} {Z H : Hp} {al : List Addr} {R : Rt} {tab : List Ob} {v w : V} {x y e : Ev} {xs ys : List D}
/-- the data of what is compared -/
theorem dat_ok (A : AbsAt K cl Z al R tab H) (hx : (x, v) ∈ R) {a : D} (h : datOf tab x = some a) (n : Nat) (hk : okD n a = true) : Dp K H v (pyD a) := by
  have q := A.roots _ hx
  have lstD : ∀ (b : Addr) (vs : List V) (zs : List D), H b = some (.lst vs) → Rps K Z al zs vs → okD n (.lst zs) = true → Dp K H (.ref b) (pyD (.lst zs)) := by
    intro b vs zs e1 e2 hk
    cases n with
    | zero => simp [okD] at hk
    | succ n =>
      simp only [pyD]
      exact .lst (SqL.of e1) (rps_dp A.same n zs _ hk e2)
  unfold datOf at h
  split at h
  · cases h
    cases q with
    | o e1 e2 => exact lstD _ _ _ e1 e2 hk
  · cases q with
    | d q =>
      cases q with
      | ref e1 =>
        split at h
        · rename_i e2
          cases h
          cases A.obj e1 e2 with
          | lst e3 e4 => exact lstD _ _ _ e3 e4 hk
        · cases h
  · cases h
    cases q with
    | d q => exact rp_dp A.same n _ _ hk q
  · cases h
end
end SH

end
section
set_option Elab.async false
set_option linter.all false
set_option maxRecDepth 100000
set_option maxHeartbeats 1000000
namespace SH
open PySem PySem.Spec L2 PyProof.Rows

/-! ### comparisons -/
section
variable {X : Cx}
def copOf : Cop → CmpOp
  | .eq => .Eq
  | .ne => .NotEq
  | .lt => .Lt
  | .le => .LtE
  | .gt => .Gt
  | .ge => .GtE
  | .in_ => .In
  | .ni => .NotIn
def rCmp (X : Cx) : Cop → R2
  | .eq => rEqD X.K
  | .ne => rNeD X.K
  | .lt => fun x y H Q => rI0 (fun i j => .bl (decide (i < j))) x y H Q ∨ (∃ i j, x = .str i ∧ y = .str j ∧ Q (.bl (decide (i.cps.toList < j.cps.toList))) H)
  | .le => rI0 fun i j => .bl (decide (i ≤ j))
  | .gt => rI0 fun i j => .bl (decide (j < i))
  | .ge => rI0 fun i j => .bl (decide (j ≤ i))
  | .in_ => fun x y H Q => rInD X.K x y H Q ∨ (rIn X.K false x y H Q ∨ (∃ i j, x = .str i ∧ y = .str j ∧ Q (.bl (!(Builtin.Str.occurrences j i 0 j.length 1).isEmpty)) H))
  | .ni => fun x y H Q => rNotInD X.K x y H Q ∨ (rIn X.K true x y H Q ∨ (∃ i j, x = .str i ∧ y = .str j ∧ Q (.bl (!(!(Builtin.Str.occurrences j i 0 j.length 1).isEmpty))) H))
theorem op_cmp (hu : X.A.units + 65 < cLine) : ∀ o : Cop, OpR X (compareOp (copOf o)) (rCmp X o)
  | .eq => op_eqD (by omega)
  | .ne => op_neD (by omega)
  | .lt => op_lt.or op_lt_str
  | .le => op_le
  | .gt => op_gt
  | .ge => op_ge
  | .in_ => (op_inD hu).or (op_in_seq.or op_in_str)
  | .ni => (op_notInD hu).or (op_notIn_seq.or L2.op_notIn_str)
end
section
variable {K : PySem.W.Frag} {Z H : Hp} {al : List Addr}
theorem flat_rp {x : D} {v : V} (h : flatD x = true) (q : Rp K Z al x v) : flatV v = true := by
  cases q <;> first | rfl | cases h
theorem flat_rps : ∀ {xs : List D} {vs : List V}, xs.all flatD = true → Rps K Z al xs vs → vs.all flatV = true
  | _, _, _, .nil => rfl
  | _, _, h, .cons q r => by
    rw [List.all_cons, Bool.and_eq_true] at h
    rw [List.all_cons, flat_rp h.1 q, flat_rps h.2 r]
    rfl
theorem flat_eq {x y : D} {v w : V} (h : flatD x = true) (h' : flatD y = true) (q : Rp K Z al x v) (q' : Rp K Z al y w) : eqV v w = eqD x y := by
  cases q <;> first | (cases h; done) | (cases q' <;> first | (cases h'; done) | rfl | simp [eqV, eqD])
theorem flat_in {x : D} {v : V} (h : flatD x = true) (q : Rp K Z al x v) : ∀ {xs : List D} {vs : List V}, xs.all flatD = true → Rps K Z al xs vs → inV v vs = xs.any fun z => eqD z x
  | _, _, _, .nil => rfl
  | _, _, h2, .cons q2 r => by
    rw [List.all_cons, Bool.and_eq_true] at h2
    have ih := flat_in h q h2.2 r
    unfold inV at ih ⊢
    rw [List.any_cons, List.any_cons, flat_eq h2.1 h q2 q, ih]
theorem any_py {x : D} (hx : okD 12 x = true) : ∀ {ys : List D}, ys.all (okD 11) = true → ((pyDs ys).any fun z => PyData.eqv z (pyD x)) = ys.any fun z => eqD z x
  | [], _ => by simp [pyDs]
  | y :: ys, h => by
    rw [List.all_cons, Bool.and_eq_true] at h
    simp only [pyDs, List.any_cons]
    rw [any_py hx h.2, eqD_py 12 y x (okD_mono h.1) hx]
where okD_mono : ∀ {n : Nat} {x : D}, okD n x = true → okD (n + 1) x = true
  | n, .non, _ => rfl
  | n, .bl _, _ => rfl
  | n, .int _, _ => rfl
  | 0, .str _, h => h
  | n + 1, .str _, h => h
  | 0, .tup _, h => by simp [okD] at h
  | 0, .lst _, h => by simp [okD] at h
  | n, .kl _, h => by cases n <;> simp [okD] at h
  | n, .kt _, h => by cases n <;> simp [okD] at h
  | n, .dic _ _, h => by cases n <;> simp [okD] at h
  | n, .ref _, h => by cases n <;> simp [okD] at h
  | n + 1, .tup xs, h => List.all_eq_true.mpr fun y hy => okD_mono (List.all_eq_true.mp (show xs.all (okD n) = true from h) y hy)
  | n + 1, .lst xs, h => List.all_eq_true.mpr fun y hy => okD_mono (List.all_eq_true.mp (show xs.all (okD n) = true from h) y hy)
end
section
variable {X : Cx} {cl : Str → Addr} {Z H : Hp} {al : List Addr} {R : Rt} {tab : List Ob} {v w : V} {x y e : Ev} {xs ys : List D} {Q : VK}
theorem dat_tup {a : D} (hx : (x, v) ∈ R) (h : datOf tab x = some (.tup ys)) : x = .d (.tup ys) := by
  unfold datOf at h
  split at h
  · cases h
  · split at h <;> cases h
  · cases h; rfl
  · cases h
theorem dat_str {a : Str} (h : datOf tab x = some (.str a)) : x = .d (.str a) := by
  unfold datOf at h
  split at h
  · cases h
  · split at h <;> cases h
  · cases h; rfl
  · cases h
theorem dat_flat {a : D} (h : datOf tab x = some a) (f : flatD a = true) : x = .d a := by
  unfold datOf at h
  split at h
  · cases h; cases f
  · split at h <;> cases h
    cases f
  · cases h; rfl
  · cases h
theorem cmp_ok (A : AbsAt X.K cl Z al R tab H) (o : Cop) {b : Bool} (hx : (x, v) ∈ R) (hy : (y, w) ∈ R) (h : cmpD o x y tab = some b) (q : Q (.bl b) H) : rCmp X o v w H Q := by
  have hints : ∀ o : Cop, cmpO o x y = some b → (∃ i j, v = .int i ∧ w = .int j ∧ cmpI o i j = some b) ∨ (o = .lt ∧ ∃ i j, v = .str i ∧ w = .str j ∧ decide (i.cps.toList < j.cps.toList) = b) := by
    intro o h
    unfold cmpO at h
    split at h
    · exact .inl ⟨_, _, A.int_ hx, A.int_ hy, h⟩
    · split at h
      · rename_i ho
        exact .inr ⟨ho, _, _, A.str_ hx, A.str_ hy, Option.some.inj h⟩
      · cases h
    · cases h
  cases o with
  | eq =>
    simp only [cmpD] at h
    split at h
    · rename_i a c h1 h2
      split at h
      · rename_i hk
        obtain ⟨k1, k2⟩ := Bool.and_eq_true_iff.mp hk
        cases h
        exact ⟨pyD a, pyD c, dat_ok A hx h1 12 k1, dat_ok A hy h2 12 k2, okD_shaped (by decide) k1, okD_shaped (by decide) k2, by rw [eqD_py 12 a c k1 k2]; exact q⟩
      · cases h
    · cases h
  | ne =>
    simp only [cmpD] at h
    split at h
    · rename_i a c h1 h2
      split at h
      · rename_i hk
        obtain ⟨k1, k2⟩ := Bool.and_eq_true_iff.mp hk
        cases h
        exact ⟨pyD a, pyD c, dat_ok A hx h1 12 k1, dat_ok A hy h2 12 k2, okD_shaped (by decide) k1, okD_shaped (by decide) k2, by rw [eqD_py 12 a c k1 k2]; exact q⟩
      · cases h
    · cases h
  | lt =>
    rcases hints .lt h with ⟨i, j, rfl, rfl, e⟩ | ⟨_, i, j, rfl, rfl, e⟩
    · cases e; exact .inl ⟨_, _, rfl, rfl, q⟩
    · subst e; exact .inr ⟨_, _, rfl, rfl, q⟩
  | le =>
    rcases hints .le h with ⟨i, j, rfl, rfl, e⟩ | ⟨z, _⟩
    · cases e; exact ⟨_, _, rfl, rfl, q⟩
    · cases z
  | gt =>
    rcases hints .gt h with ⟨i, j, rfl, rfl, e⟩ | ⟨z, _⟩
    · cases e; exact ⟨_, _, rfl, rfl, q⟩
    · cases z
  | ge =>
    rcases hints .ge h with ⟨i, j, rfl, rfl, e⟩ | ⟨z, _⟩
    · cases e; exact ⟨_, _, rfl, rfl, q⟩
    · cases z
  | in_ =>
    simp only [cmpD] at h
    split at h
    · rename_i a ys h1 h2
      split at h
      · rename_i hk
        obtain ⟨k1, k2⟩ := Bool.and_eq_true_iff.mp hk
        cases h
        have k3 : okD 12 (.lst ys) = true := k2
        refine .inl ⟨pyD a, pyDs ys, dat_ok A hx h1 12 k1, ?_, okD_shaped (by decide) k1, ?_, by rw [any_py k1 k2]; exact q⟩
        · have := dat_ok A hy h2 12 k3
          simpa only [pyD] using this
        · have := okD_shaped (n := 12) (by decide) k3
          simpa only [pyD] using this
      · cases h
    · rename_i a ys h1 h2
      split at h
      · rename_i hk
        obtain ⟨k1, k2⟩ := Bool.and_eq_true_iff.mp hk
        cases h
        have e1 := dat_flat h1 k1
        subst e1
        have e2 := dat_tup (a := a) hy h2
        subst e2
        obtain ⟨p, vs, rfl, sp, rp, _⟩ := A.tup_ hy
        have rx := A.rp hx
        exact .inr (.inl ⟨p, vs, rfl, .inr sp, flat_rp k1 rx, flat_rps k2 rp, by rw [if_neg (by decide), flat_in k1 rx k2 rp]; exact q⟩)
      · cases h
    · rename_i a c h1 h2
      cases h
      have e1 := dat_str h1
      have e2 := dat_str h2
      subst e1 e2
      exact .inr (.inr ⟨_, _, A.str_ hx, A.str_ hy, q⟩)
    · cases h
  | ni =>
    simp only [cmpD] at h
    split at h
    · rename_i a ys h1 h2
      split at h
      · rename_i hk
        obtain ⟨k1, k2⟩ := Bool.and_eq_true_iff.mp hk
        cases h
        have k3 : okD 12 (.lst ys) = true := k2
        refine .inl ⟨pyD a, pyDs ys, dat_ok A hx h1 12 k1, ?_, okD_shaped (by decide) k1, ?_, by rw [any_py k1 k2]; exact q⟩
        · have := dat_ok A hy h2 12 k3
          simpa only [pyD] using this
        · have := okD_shaped (n := 12) (by decide) k3
          simpa only [pyD] using this
      · cases h
    · rename_i a ys h1 h2
      split at h
      · rename_i hk
        obtain ⟨k1, k2⟩ := Bool.and_eq_true_iff.mp hk
        cases h
        have e1 := dat_flat h1 k1
        subst e1
        have e2 := dat_tup (a := a) hy h2
        subst e2
        obtain ⟨p, vs, rfl, sp, rp, _⟩ := A.tup_ hy
        have rx := A.rp hx
        exact .inr (.inl ⟨p, vs, rfl, .inr sp, flat_rp k1 rx, flat_rps k2 rp, by rw [if_pos rfl, flat_in k1 rx k2 rp]; exact q⟩)
      · cases h
    · rename_i a c h1 h2
      cases h
      have e1 := dat_str h1
      have e2 := dat_str h2
      subst e1 e2
      exact .inr (.inr ⟨_, _, A.str_ hx, A.str_ hy, q⟩)
    · cases h
end

/-! ### items, slices -/
section
variable {X : Cx} {cl : Str → Addr} {Z H : Hp} {al : List Addr} {R : Rt} {tab : List Ob} {v w : V} {x y e : Ev} {xs ys : List D} {vs : List V} {Q : VK}
theorem atI_rps {K : PySem.W.Frag} {i : Int} {a : D} (r : Rps K Z al xs vs) (h : atI xs i = some a) : ∃ u, atI vs i = some u ∧ Rp K Z al a u := by
  unfold atI at h ⊢
  rw [← r.length]
  cases e : ixN xs.length i with
  | none => rw [e] at h; cases h
  | some j =>
    rw [e] at h
    obtain ⟨u, h1, h2⟩ := r.get (i := j) h
    exact ⟨u, h1, h2⟩
theorem ix_ok (A : AbsAt X.K cl Z al R tab H) (hx : (x, v) ∈ R) (hy : (y, w) ∈ R) (h : ixD x y tab = some e) (q : ∀ u H', Abs X.K cl ((e, u) :: R) tab H' → Q u H') : rIx X.K v w H Q := by
  unfold ixD at h
  split at h
  · rename_i i
    rw [A.int_ hy]
    split at h
    · rename_i xs hs
      obtain ⟨a, vs, rfl, sa, ra⟩ := seq_ok A hx hs
      cases ha : atI xs i with
      | none => rw [ha] at h; cases h
      | some z =>
        rw [ha] at h
        cases h
        obtain ⟨u, h1, h2⟩ := atI_rps ra ha
        have qq := q u H (A.addD h2).abs
        rcases sa with sa | sa
        · exact .inl ⟨a, vs, i, u, rfl, rfl, sa, h1, qq⟩
        · exact .inr (.inl ⟨a, vs, i, u, rfl, rfl, sa, h1, qq⟩)
    · split at h
      · rename_i z _
        split at h
        · rename_i hl
          rw [A.str_ hx]
          cases ha : atI z.cps.toList i with
          | none => rw [ha] at h; cases h
          | some c =>
            rw [ha] at h
            cases h
            exact .inr (.inr ⟨z, i, c, rfl, rfl, by rw [← lim_eq]; exact hl, ha, q _ H (abs_str A _)⟩)
        · cases h
      · cases h
  · cases h
def rSl (X : Cx) : V → Option Int → Option Int → Hp → VK → Prop := fun x lo hi H Q => rSlL X.K x lo hi H Q ∨ RSlA x lo hi H Q
where RSlA := rSlA X.K
theorem sl_rule : SlR X (rSl X) := sl_list.or sl_tupA
theorem cut_rps {K : PySem.W.Frag} (r : Rps K Z al xs vs) (lo hi : Option Int) : Rps K Z al (cutD xs lo hi) (cutV vs lo hi) := by
  unfold cutD cutV
  rw [← r.length]
  exact (r.drop _).take _
theorem sl_ok (A : AbsAt X.K cl Z al R tab H) (lo hi : Option Int) (hx : (x, v) ∈ R) (h : slD x lo hi tab = some e) (q : ∀ u H', Abs X.K cl ((e, u) :: R) tab H' → Q u H') : rSl X v lo hi H Q := by
  unfold slD at h
  split at h
  · cases h
    obtain ⟨a, vs, rfl, sa, ra, za⟩ := A.tup_ hx
    refine .inr ⟨a, vs, rfl, sa, fun hw => ?_, fun hw p hp => ?_⟩
    · refine q _ H (A.addD ?_).abs
      rename_i xs
      have e : cutD xs lo hi = xs := by
        unfold cutD
        rw [ra.length, hw.1, hw.2, Nat.sub_zero, List.drop_zero, ← ra.length, List.take_length]
      rw [e]
      exact .tup za ra
    · exact q _ _ (A.newTup hp (cut_rps ra lo hi)).abs
  · rename_i hne
    cases hl : lstOf tab x with
    | none => rw [hl] at h; cases h
    | some xs =>
      rw [hl] at h
      cases h
      obtain ⟨a, vs, rfl, ha, ra⟩ := lst_ok A hx hl
      exact .inl ⟨a, vs, rfl, SqL.of ha, fun p hp => q _ _ (A.newLst hp (cut_rps ra lo hi)).abs⟩
end
end SH

end
section
set_option Elab.async false
set_option linter.all false
set_option maxRecDepth 100000
set_option maxHeartbeats 1000000
namespace SH
open PySem PySem.Spec L2 PyProof.Rows

/-! ### sorting -/
section
variable {α : Type} {le : α → α → Bool}
theorem insB_perm (x : α) : ∀ l : List α, (insB le x l).Perm (x :: l)
  | [] => List.Perm.refl _
  | y :: r => by
    unfold insB
    split
    · exact List.Perm.refl _
    · exact (List.Perm.cons y (insB_perm x r)).trans (List.Perm.swap x y r)
theorem isort_perm : ∀ l : List α, (isort le l).Perm l
  | [] => List.Perm.refl _
  | x :: l => (insB_perm x (isort le l)).trans (List.Perm.cons x (isort_perm l))
theorem insB_sorted (tot : ∀ a b, le a b = true ∨ le b a = true) (tr : ∀ a b c, le a b = true → le b c = true → le a c = true) (x : α) : ∀ l : List α, l.Pairwise (fun a b => le a b = true) → (insB le x l).Pairwise (fun a b => le a b = true)
  | [], _ => List.pairwise_singleton _ _
  | y :: r, h => by
    obtain ⟨h1, h2⟩ := List.pairwise_cons.mp h
    unfold insB
    split
    · rename_i hxy
      refine List.pairwise_cons.mpr ⟨fun z hz => ?_, h⟩
      rcases List.mem_cons.mp hz with e | hz
      · rw [e]; exact hxy
      · exact tr _ _ _ hxy (h1 z hz)
    · rename_i hxy
      have hyx : le y x = true := by
        rcases tot x y with q | q
        · exact absurd q hxy
        · exact q
      refine List.pairwise_cons.mpr ⟨fun z hz => ?_, insB_sorted tot tr x r h2⟩
      rcases List.mem_cons.mp ((insB_perm x r).subset hz) with e | hz
      · rw [e]; exact hyx
      · exact h1 z hz
theorem isort_sorted (tot : ∀ a b, le a b = true ∨ le b a = true) (tr : ∀ a b c, le a b = true → le b c = true → le a c = true) : ∀ l : List α, (isort le l).Pairwise (fun a b => le a b = true)
  | [] => List.Pairwise.nil
  | x :: l => insB_sorted tot tr x _ (isort_sorted tot tr l)
theorem perm_uniq (anti : ∀ a b, le a b = true → le b a = true → a = b) : ∀ {l m : List α}, l.Perm m → l.Pairwise (fun a b => le a b = true) → m.Pairwise (fun a b => le a b = true) → l = m
  | [], m, p, _, _ => (List.Perm.nil_eq p)
  | x :: l, [], p, _, _ => absurd p.length_eq (by simp)
  | x :: l, y :: m, p, h1, h2 => by
    obtain ⟨a1, a2⟩ := List.pairwise_cons.mp h1
    obtain ⟨b1, b2⟩ := List.pairwise_cons.mp h2
    have exy : x = y := by
      rcases List.mem_cons.mp (p.subset List.mem_cons_self) with e | hx
      · exact e
      · rcases List.mem_cons.mp (p.symm.subset List.mem_cons_self) with e | hy
        · exact e.symm
        · exact anti _ _ (a1 y hy) (b1 x hx)
    subst exy
    rw [perm_uniq anti (List.Perm.cons_inv p) a2 b2]
end
theorem sortI_uniq {ns ms : List Int} (p : ms.Perm ns) (h : ms.Pairwise (· ≤ ·)) : ms = sortI ns := by
  refine perm_uniq (le := fun i j => decide (i ≤ j)) (fun a b h1 h2 => ?_) (p.trans (isort_perm ns).symm) ?_ (isort_sorted (fun a b => ?_) (fun a b c h1 h2 => ?_) ns)
  · simp only [decide_eq_true_eq] at h1 h2; omega
  · exact h.imp fun q => by simpa using q
  · simp only [decide_eq_true_eq]; omega
  · simp only [decide_eq_true_eq] at h1 h2 ⊢; omega
theorem leP_lex (p q : Int × Int) : leP p q = true ↔ SrtO.lexB q p = false := by
  rw [SrtO.lexB_no]
  unfold leP
  simp only [Bool.or_eq_true, Bool.and_eq_true, decide_eq_true_eq]
  omega
theorem sortP_uniq {ns ms : List (Int × Int)} (p : ms.Perm ns) (h : ms.Pairwise fun a b => SrtO.lexB b a = false) : ms = sortP ns := by
  refine perm_uniq (le := leP) (fun a b h1 h2 => ?_) (p.trans (isort_perm ns).symm) (h.imp fun q => (leP_lex _ _).mpr q) (isort_sorted (fun a b => ?_) (fun a b c h1 h2 => ?_) ns)
  · unfold leP at h1 h2
    simp only [Bool.or_eq_true, Bool.and_eq_true, decide_eq_true_eq] at h1 h2
    have e1 : a.1 = b.1 := by omega
    have e2 : a.2 = b.2 := by omega
    exact Prod.ext e1 e2
  · unfold leP
    simp only [Bool.or_eq_true, Bool.and_eq_true, decide_eq_true_eq]
    omega
  · unfold leP at h1 h2 ⊢
    simp only [Bool.or_eq_true, Bool.and_eq_true, decide_eq_true_eq] at h1 h2 ⊢
    omega

/-! ### sum of a tuple -/
def rSumT (K : PySem.W.Frag) : List V → Hp → VK → Prop := fun vs H Q => ∃ (a : Addr) (ns : List Int), vs = [V.ref a] ∧ SqT K H a (ns.map V.int) ∧ Q (.int ns.sum) H
theorem cr_sumT {X : Cx} (hc : X.calm = true) : CallR X (.builtin "sum") (rSumT X.K) := by
  intro pins s σ H vs us Q I r h
  obtain ⟨a, ns, rfl, hs, q⟩ := h
  obtain ⟨its, rv, hl, _⟩ := I.tuple hs
  rw [Vals.ref1 r]
  have hi := rv.ints
  obtain ⟨xs, e⟩ := hi.allInts.items
  have hn : numsOf (intItems xs).toList = ns := by rw [← e]; exact hi.numsOf
  rw [nums_intItems] at hn
  have hl' : s.heap.IsTuple a its.toArray := hl
  rw [e] at hl'
  refine PySem.W.ktm_sumG (I.ok.hd hc) hl' fun h' tk t' hk => ?_
  rw [preSum_eq, List.take_of_length_le (by simp), hn]
  exact ⟨.int _, H, I.kept hk, ⟨_, rfl⟩, q⟩

/-! ### the built-ins -/
def bName : Bi → Str
  | .len => "len"
  | .sum => "sum"
  | .all => "all"
  | .any => "any"
  | .tuple => "tuple"
  | .list => "list"
  | .int => "int"
  | .str => "str"
  | .min => "min"
  | .max => "max"
  | .sorted => "sorted"
def bv : Bi → Value
  | .len => .builtin "len"
  | .sum => .builtin "sum"
  | .all => .builtin "all"
  | .any => .builtin "any"
  | .tuple => .type "tuple"
  | .list => .type "list"
  | .int => .type "int"
  | .str => .type "str"
  | .min => .builtin "min"
  | .max => .builtin "max"
  | .sorted => .builtin "sorted"
def rBi (X : Cx) : Bi → List V → Hp → VK → Prop
  | .len => fun xs H Q => (∃ p ys, xs = [.ref p] ∧ (SqL X.K H p ys ∨ SqT X.K H p ys) ∧ Q (.int ys.length) H) ∨ (∃ z, xs = [.str z] ∧ z.length ≤ sizeLine ∧ Q (.int z.length) H)
  | .sum => fun xs H Q => rSum X.K xs H Q ∨ rSumT X.K xs H Q
  | .all => rAll X.K
  | .any => rAny X.K
  | .tuple => fun xs H Q => ∃ p ys, xs = [.ref p] ∧ ((SqL X.K H p ys ∧ ∀ l, H l = none → Q (.ref l) (upd H l (.tup ys))) ∨ (SqT X.K H p ys ∧ Q (.ref p) H))
  | .list => fun xs H Q => ∃ p ys, xs = [.ref p] ∧ (SqL X.K H p ys ∨ SqT X.K H p ys) ∧ ∀ l, H l = none → Q (.ref l) (upd H l (.lst ys))
  | .int => fun xs H Q => (∃ i, xs = [.int i] ∧ Q (.int i) H) ∨ ∃ k, xs = [.bl k] ∧ Q (.int (if k then 1 else 0)) H
  | .str => fun xs H Q => ∃ i : Int, xs = [.int i] ∧ i.natAbs.log2 < 1920 ∧ Q (.str (toString i)) H
  | .min => fun xs H Q => ∃ i j, xs = [.int i, .int j] ∧ Q (.int (if j < i then j else i)) H
  | .max => fun xs H Q => ∃ i j, xs = [.int i, .int j] ∧ Q (.int (if j > i then j else i)) H
  | .sorted => fun xs H Q => rSortedI X.K xs H Q ∨ rSortedPO X.K xs H Q
theorem bi_rule {X : Cx} (hc : X.calm = true) : ∀ b : Bi, CallR X (bv b) (rBi X b)
  | .len => call_len_seq.or call_len_str
  | .sum => (cr_sum hc).or (cr_sumT hc)
  | .all => cr_all hc
  | .any => cr_any hc
  | .tuple => call_tuple_of
  | .list => call_list_of
  | .int => call_int1
  | .str => call_str_int
  | .min => call_min2 hc
  | .max => call_max2 hc
  | .sorted => cr_sortedI.or cr_sortedPO
section
variable {X : Cx} {cl : Str → Addr} {Z H : Hp} {al : List Addr} {R : Rt} {tab : List Ob} {v w : V} {x y e : Ev} {xs ys : List D} {vs : List V} {Q : VK}
theorem intsOf_eq : ∀ {xs : List D} {ns : List Int}, intsOf xs = some ns → xs = ns.map D.int
  | [], ns, h => by cases h; rfl
  | .int i :: r, ns, h => by
    simp only [intsOf] at h
    cases e : intsOf r with
    | none => rw [e] at h; cases h
    | some ms =>
      rw [e] at h
      cases h
      rw [intsOf_eq e]
      rfl
  | .non :: _, _, h => by cases h
  | .bl _ :: _, _, h => by cases h
  | .str _ :: _, _, h => by cases h
  | .tup _ :: _, _, h => by cases h
  | .lst _ :: _, _, h => by cases h
  | .kl _ :: _, _, h => by cases h
  | .kt _ :: _, _, h => by cases h
  | .dic _ _ :: _, _, h => by cases h
  | .ref _ :: _, _, h => by cases h
theorem blsOf_eq : ∀ {xs : List D} {ns : List Bool}, blsOf xs = some ns → xs = ns.map D.bl
  | [], ns, h => by cases h; rfl
  | .bl i :: r, ns, h => by
    simp only [blsOf] at h
    cases e : blsOf r with
    | none => rw [e] at h; cases h
    | some ms =>
      rw [e] at h
      cases h
      rw [blsOf_eq e]
      rfl
  | .non :: _, _, h => by cases h
  | .int _ :: _, _, h => by cases h
  | .str _ :: _, _, h => by cases h
  | .tup _ :: _, _, h => by cases h
  | .lst _ :: _, _, h => by cases h
  | .kl _ :: _, _, h => by cases h
  | .kt _ :: _, _, h => by cases h
  | .dic _ _ :: _, _, h => by cases h
  | .ref _ :: _, _, h => by cases h
theorem pairsOf_eq : ∀ (xs : List D) {ns : List (Int × Int)}, pairsOf xs = some ns → xs = ns.map prD2
  | [], ns, h => by cases h; rfl
  | x :: r, ns, h => by
    unfold pairsOf at h
    split at h
    · rename_i h0
      cases h0
    · rename_i i j r' h0
      cases h0
      cases e : pairsOf r with
      | none => rw [e] at h; cases h
      | some ms =>
        rw [e] at h
        cases h
        rw [pairsOf_eq r e]
        rfl
    · cases h
/-- the two ints of a pair that stands at v -/
def keyV (H : Hp) : V → Int × Int
  | .ref t => (match H t with
    | some (.tup [.int i, .int j]) => (i, j)
    | _ => (0, 0))
  | _ => (0, 0)
theorem pair_at {K : PySem.W.Frag} {p : Int × Int} (hs : Same Z H) (q : Rp K Z al (prD2 p) v) : ∃ t, v = .ref t ∧ H t = some (.tup [.int p.1, .int p.2]) ∧ Z t = some (.tup [.int p.1, .int p.2]) := by
  unfold prD2 at q
  cases q with
  | tup e1 e2 =>
    cases e2 with
    | cons a b =>
      cases a
      cases b with
      | cons a b =>
        cases a
        cases b
        exact ⟨_, rfl, hs _ _ e1, e1⟩
theorem keyV_pair {K : PySem.W.Frag} {p : Int × Int} (hs : Same Z H) (q : Rp K Z al (prD2 p) v) : keyV H v = p := by
  obtain ⟨t, rfl, h, _⟩ := pair_at hs q
  simp only [keyV, h]
theorem keys_pairs {K : PySem.W.Frag} (hs : Same Z H) : ∀ {ps : List (Int × Int)} {vs : List V}, Rps K Z al (ps.map prD2) vs → vs.map (keyV H) = ps
  | [], _, .nil => rfl
  | p :: ps, _, .cons q r => by
    rw [List.map_cons, keyV_pair hs q, keys_pairs hs r]
theorem rps_of_all {K : PySem.W.Frag} (f : V → D) : ∀ {vs : List V}, (∀ u ∈ vs, Rp K Z al (f u) u) → Rps K Z al (vs.map f) vs
  | [], _ => .nil
  | v :: vs, h => .cons (h v List.mem_cons_self) (rps_of_all f fun u hu => h u (List.mem_cons_of_mem _ hu))
theorem bi_ok (A : AbsAt X.K cl Z al R tab H) (b : Bi) {es : List Ev} (hes : Paired (fun e v => (e, v) ∈ R) es vs) (h : biD b es tab = some e) (q : ∀ u H', Abs X.K cl ((e, u) :: R) tab H' → Q u H') : rBi X b vs H Q := by
  unfold biD at h
  split at h
  · -- len
    rename_i e0
    cases hes with
    | cons m t =>
      cases t
      split at h
      · rename_i xs hs
        cases h
        obtain ⟨a, us, rfl, sa, ra⟩ := seq_ok A m hs
        exact .inl ⟨a, us, rfl, sa, by rw [← ra.length]; exact q _ H (abs_int A _)⟩
      · split at h
        · split at h
          · rename_i hl
            cases h
            rw [A.str_ m]
            exact .inr ⟨_, rfl, by rw [← lim_eq]; exact hl, q _ H (abs_int A _)⟩
          · cases h
        · cases h
  · -- sum
    cases hes with
    | cons m t =>
      cases t
      split at h
      · rename_i xs hs
        cases hi : intsOf xs with
        | none => rw [hi] at h; cases h
        | some ns =>
          rw [hi] at h
          cases h
          obtain ⟨a, us, rfl, sa, ra⟩ := seq_ok A m hs
          rw [intsOf_eq hi] at ra
          rw [ra.ints] at sa
          rcases sa with sa | sa
          · exact .inl ⟨a, ns, rfl, sa, q _ H (abs_int A _)⟩
          · exact .inr ⟨a, ns, rfl, sa, q _ H (abs_int A _)⟩
      · cases h
  · -- all
    cases hes with
    | cons m t =>
      cases t
      split at h
      · rename_i xs hs
        cases hi : blsOf xs with
        | none => rw [hi] at h; cases h
        | some ns =>
          rw [hi] at h
          cases h
          obtain ⟨a, us, rfl, sa, ra⟩ := lst_ok A m hs
          rw [blsOf_eq hi] at ra
          rw [ra.bls] at sa
          exact ⟨a, ns, rfl, SqL.of sa, q _ H (abs_bl A _)⟩
      · cases h
  · -- any
    cases hes with
    | cons m t =>
      cases t
      split at h
      · rename_i xs hs
        cases hi : blsOf xs with
        | none => rw [hi] at h; cases h
        | some ns =>
          rw [hi] at h
          cases h
          obtain ⟨a, us, rfl, sa, ra⟩ := lst_ok A m hs
          rw [blsOf_eq hi] at ra
          rw [ra.bls] at sa
          exact ⟨a, ns, rfl, SqL.of sa, q _ H (abs_bl A _)⟩
      · cases h
  · cases h
  · -- tuple
    rename_i e0 hk
    cases hes with
    | cons m t =>
      cases t
      cases hs : seqOf tab e0 with
      | none => rw [hs] at h; cases h
      | some xs =>
        rw [hs] at h
        cases h
        have lq : ∀ (a : Addr) (us : List V), H a = some (.lst us) → Rps X.K Z al xs us → rBi X .tuple [.ref a] H Q := fun a us sa ra =>
          ⟨a, us, rfl, .inl ⟨SqL.of sa, fun l hl => q _ _ (A.newTup hl ra).abs⟩⟩
        have rt := A.roots _ m
        unfold seqOf at hs
        split at hs
        · cases hs
          cases rt with
          | o e1 e2 => exact lq _ _ e1 e2
        · cases hs
          cases rt with
          | d r =>
            cases r with
            | lst e1 e2 => exact lq _ _ (A.same _ _ e1) e2
        · cases hs
          cases rt with
          | d r =>
            cases r with
            | tup e1 e2 => exact ⟨_, _, rfl, .inr ⟨SqT.of (A.same _ _ e1), q _ H (A.addD (.tup e1 e2)).abs⟩⟩
        · cases hs
          cases rt with
          | d r =>
            cases r with
            | kl e1 e2 => exact ⟨_, _, rfl, .inl ⟨Same.seq A.same e1, fun l hl => q _ _ (A.newTup hl e2).abs⟩⟩
        · exact absurd rfl (hk _)
        · cases rt with
          | d r =>
            cases r with
            | ref e1 =>
              split at hs
              · rename_i e2
                cases hs
                cases A.obj e1 e2 with
                | lst e3 e4 => exact lq _ _ e3 e4
              · cases hs
        · cases hs
  · -- list
    rename_i e0
    cases hes with
    | cons m t =>
      cases t
      cases hs : seqOf tab e0 with
      | none => rw [hs] at h; cases h
      | some xs =>
        rw [hs] at h
        cases h
        obtain ⟨a, us, rfl, sa, ra⟩ := seq_ok A m hs
        exact ⟨a, us, rfl, sa, fun l hl => q _ _ (A.newLst hl ra).abs⟩
  · cases hes with
    | cons m t =>
      cases t
      cases h
      rw [A.int_ m]
      exact .inl ⟨_, rfl, q _ H (abs_int A _)⟩
  · cases hes with
    | cons m t =>
      cases t
      cases h
      rw [A.bl_ m]
      exact .inr ⟨_, rfl, q _ H (abs_int A _)⟩
  · cases hes with
    | cons m t =>
      cases t
      split at h
      · rename_i hi
        cases h
        rw [A.int_ m]
        refine ⟨_, rfl, ?_, q _ H (abs_str A _)⟩
        exact Nat.lt_of_lt_of_le (PySem.Flt.log2_lt_of (by decide) (i64_nat hi)) (by decide)
      · cases h
  · cases hes with
    | cons m t =>
      cases t with
      | cons m2 t =>
        cases t
        cases h
        rw [A.int_ m, A.int_ m2]
        exact ⟨_, _, rfl, q _ H (abs_int A _)⟩
  · cases hes with
    | cons m t =>
      cases t with
      | cons m2 t =>
        cases t
        cases h
        rw [A.int_ m, A.int_ m2]
        exact ⟨_, _, rfl, q _ H (abs_int A _)⟩
  · -- sorted
    rename_i e0
    cases hes with
    | cons m t =>
      cases t
      split at h
      · rename_i xs hs
        obtain ⟨a, us, rfl, sa, ra⟩ := lst_ok A m hs
        split at h
        · rename_i ns hi
          cases h
          rw [intsOf_eq hi] at ra
          rw [ra.ints] at sa
          refine .inl ⟨a, ns, rfl, SqL.of sa, fun ms p hp hs2 hn => ?_⟩
          rw [sortI_uniq hp hs2]
          exact q _ _ (A.newLst hn (Rps.ofInts _)).abs
        · cases hi : pairsOf xs with
          | none => rw [hi] at h; cases h
          | some ps =>
            rw [hi] at h
            cases h
            rw [pairsOf_eq xs hi] at ra
            have hk := keys_pairs A.same ra
            have hall : ∀ u ∈ us, ∃ t, u = V.ref t ∧ H t = some (.tup [.int (keyV H u).1, .int (keyV H u).2]) ∧ Rp X.K Z al (prD2 (keyV H u)) u := fun u hu => by
              obtain ⟨i, hi, e⟩ := List.mem_iff_getElem.mp hu
              obtain ⟨d, h1, h2⟩ := ra.getV (i := i) (v := u) (by rw [List.getElem?_eq_getElem hi, e])
              rw [List.getElem?_map] at h1
              cases hp : ps[i]? with
              | none => rw [hp] at h1; cases h1
              | some p =>
                rw [hp] at h1
                cases h1
                obtain ⟨t, rfl, q1, q2⟩ := pair_at A.same h2
                have ek := keyV_pair A.same h2
                rw [ek]
                exact ⟨t, rfl, q1, h2⟩
            refine .inr ⟨a, us, keyV H, rfl, SqL.of sa, fun u hu => let ⟨t, e1, e2, _⟩ := hall u hu; ⟨t, e1, e2⟩, fun zs p hs1 hs2 hn => ?_⟩
            have e1 : zs.map (keyV H) = sortP ps := by
              refine sortP_uniq ?_ (List.pairwise_map.mpr hs1)
              rw [← hk]
              exact hs2.perm.map _
            refine q _ _ ?_
            show Abs X.K cl ((Ev.o ((sortP ps).map prD2), V.ref p) :: R) tab _
            rw [← e1, List.map_map]
            exact (A.newLst hn (rps_of_all (prD2 ∘ keyV H) fun u hu => (hall u (hs2.perm.subset hu)).elim fun _ z => z.2.2)).abs
      · cases h
  · cases h
end

/-! ### isinstance -/
section
variable {X : Cx} {cl : Str → Addr} {Z H : Hp} {al : List Addr} {R : Rt} {tab : List Ob} {v w : V} {x y e : Ev} {xs ys : List D} {vs : List V} {Q : VK}
def tyS : Ty → String
  | .int => "int"
  | .bool => "bool"
  | .str => "str"
  | .tuple => "tuple"
  | .list => "list"
def tyN : Ty → Str
  | .int => "int"
  | .bool => "bool"
  | .str => "str"
  | .tuple => "tuple"
  | .list => "list"
theorem boot_ty : ∀ T : Ty, bootBuiltins (tyN T) = some (.type (tyS T))
  | .int => by decide +kernel
  | .bool => by decide +kernel
  | .str => by decide +kernel
  | .tuple => by decide +kernel
  | .list => by decide +kernel
theorem kit_non (T : Ty) : kitB "NoneType" (tyS T) = some false := by cases T <;> decide +kernel
theorem kit_bl (T : Ty) : kitB "bool" (tyS T) = some (decide (T = .bool) || decide (T = .int)) := by cases T <;> decide +kernel
theorem kit_int (T : Ty) : kitB "int" (tyS T) = some (decide (T = .int)) := by cases T <;> decide +kernel
theorem kit_str (T : Ty) : kitB "str" (tyS T) = some (decide (T = .str)) := by cases T <;> decide +kernel
theorem kit_tup (T : Ty) : kitB "tuple" (tyS T) = some (decide (T = .tuple)) := by cases T <;> decide +kernel
theorem kit_lst (T : Ty) : kitB "list" (tyS T) = some (decide (T = .list)) := by cases T <;> decide +kernel
/-- a value's type, for every asked one -/
theorem isT_ty (A : AbsAt X.K cl Z al R tab H) (hx : (x, v) ∈ R) {T0 : Ty} {b0 : Bool} (h0 : isT tab x T0 = some b0) : ∃ t : String, TyX X.K H v (.type t) ∧ ∀ (T : Ty) (b : Bool), isT tab x T = some b → kitB t (tyS T) = some b := by
  have q := A.roots _ hx
  cases x with
  | o xs =>
    cases q with
    | o e1 _ => exact ⟨"list", .base (.lst e1), fun T b h => by rw [kit_lst]; cases T <;> cases h <;> rfl⟩
  | od ks xs => cases T0 <;> cases h0
  | d x =>
    cases q with
    | d q =>
      cases x with
      | non => cases q; exact ⟨"NoneType", .base .non, fun T b h => by rw [kit_non]; cases T <;> cases h <;> rfl⟩
      | bl c => cases q; exact ⟨"bool", .base (.bl c), fun T b h => by rw [kit_bl]; cases T <;> cases h <;> rfl⟩
      | int c => cases q; exact ⟨"int", .base (.int c), fun T b h => by rw [kit_int]; cases T <;> cases h <;> rfl⟩
      | str c => cases q; exact ⟨"str", .base (.str c), fun T b h => by rw [kit_str]; cases T <;> cases h <;> rfl⟩
      | tup c =>
        cases q with
        | tup e1 _ => exact ⟨"tuple", .base (.tup (A.same _ _ e1)), fun T b h => by rw [kit_tup]; cases T <;> cases h <;> rfl⟩
      | lst c =>
        cases q with
        | lst e1 _ => exact ⟨"list", .base (.lst (A.same _ _ e1)), fun T b h => by rw [kit_lst]; cases T <;> cases h <;> rfl⟩
      | kl c => cases T0 <;> cases h0
      | kt c => cases T0 <;> cases h0
      | dic c d => cases T0 <;> cases h0
      | ref n => cases T0 <;> cases h0
theorem isT_some {T0 T : Ty} {b0 : Bool} (h0 : isT tab x T0 = some b0) : ∃ b, isT tab x T = some b := by
  cases x with
  | o xs => cases T <;> exact ⟨_, rfl⟩
  | od ks xs => cases T0 <;> cases h0
  | d x => cases x <;> first | (cases T <;> exact ⟨_, rfl⟩) | (cases T0 <;> cases h0)
theorem isi_ok (A : AbsAt X.K cl Z al R tab H) (hx : (x, v) ∈ R) {T : Ty} {b : Bool} (h : isT tab x T = some b) (q : Q (.bl b) H) : rIsi X.K [v, .ty (tyS T)] H Q := by
  obtain ⟨t, h1, h2⟩ := isT_ty A hx h
  exact ⟨v, .ty (tyS T), .type t, .type (tyS T), b, rfl, .ty _, h1, kit_ty (h2 T b h), q⟩
end
end SH

end
section
set_option Elab.async false
set_option linter.all false
set_option maxRecDepth 100000
set_option maxHeartbeats 1000000
namespace PySem
open Sem (wp)
open AutoSeq1 (wpAny_loadPart')
set_option maxHeartbeats 1000000 in
theorem meets_enumerate_new1 {v : Value} {o : Obj} {H : Heap → Prop} (B : Begins v o H) :
    Meets (Builtin.«enumerate.__new__» ⟨[.type "enumerate", v], []⟩) (fun _ R s => H s.heap ∧
      R (.ok (.ret (.ref (s.heap.push o).objs.size))) { s with heap := (s.heap.push o).push { cls := .type "enumerate", data := .fields #[.none, .bool false, .ref s.heap.objs.size, rawInt 0, .none, .none] } }) :=
  .of_wp fun prog w A R s h => by
    obtain ⟨hp, g, d, tk, os⟩ := s; obtain ⟨h1, h⟩ := h
    have hsub := sub_enumerate
    have q1 : ∀ {A' : Around} {E : Value → Shared → Prop} {Q : Value → Shared → Prop}, Q (.ref hp.objs.size) ⟨hp.push o, g, d, tk, os⟩ → wpAny (model prog w) A' (pyIter v) Q E ⟨hp, g, d, tk, os⟩ :=
      fun q => B.iter prog w _ _ ⟨hp, g, d, tk, os⟩ _ h1 q
    wp_walk using q1
    refine wpAny_stack_any fun st => wpAny_pure ?_
    split
    · rename_i c _ _ _ _ _
      cases (c == Value.type "enumerate")
      · wp_walk using q1
        exact ⟨_, rfl, h⟩
      · wp_walk using q1
        exact ⟨_, rfl, h⟩
    · wp_walk using q1
      exact ⟨_, rfl, h⟩
section
variable {prog : Program} {w : World} {A : Around} {E : Value → Shared → Prop} {s : Shared}
theorem call_enumerate_B {v : Value} {o : Obj} {H : Heap → Prop} {Q : Value → Shared → Prop} (B : Begins v o H) (h1 : H s.heap)
    (h : ∀ h', IsEnum h' (s.heap.objs.size + 1) s.heap.objs.size 0 .none → h'.get? s.heap.objs.size = some o → h'.objs.size = s.heap.objs.size + 2 →
      (∀ b o, s.heap.get? b = some o → h'.get? b = some o) → Q (.ref (s.heap.objs.size + 1)) { s with heap := h' }) :
    wpAny (model prog w) A (call (.type "enumerate") [v]) Q E s := by
  refine callType_new F.called_enumerate (by decide) (F.typeCall_enumerate_1 _) (F.newCall_enumerate_1 _) (fun obj => F.args_object_init_2 obj _) F.entry_enumerate_new
    (meets_enumerate_new1 B) ⟨h1, ?_⟩
  have hz : (s.heap.push o).objs.size = s.heap.objs.size + 1 := Heap.size_push ..
  show _ ∧ _
  rw [hz]
  have he : IsEnum ((s.heap.push o).push { cls := .type "enumerate", data := .fields #[.none, .bool false, .ref s.heap.objs.size, rawInt 0, .none, .none] }) (s.heap.objs.size + 1) s.heap.objs.size 0 .none := by
    have := Heap.get?_push_size (s.heap.push o) (o := { cls := .type "enumerate", data := .fields #[.none, .bool false, .ref s.heap.objs.size, rawInt 0, .none, .none] }) rfl
    rw [hz] at this; exact this
  refine ⟨⟨_, he, rfl⟩, h _ he (Heap.get?_push_of_some _ (Heap.get?_push_size _ B.free)) (by rw [Heap.size_push, hz]) fun b o x => Heap.get?_push_of_some _ (Heap.get?_push_of_some _ x)⟩
end
end PySem

namespace SH
open PySem PySem.Spec L2 PyProof.Rows

/-! ### enumerate over a tuple -/
def IteT (K : PySem.W.Frag) (a : Addr) : L2.It :=
  ⟨fun i H => ∃ xs x, SqT K H a xs ∧ xs[i]? = some x, fun i H v H' => ∃ T x, v = .ref T ∧ H T = none ∧ H' = upd H T (.tup [.int (i : Nat), x]) ∧ ∀ xs, SqT K H a xs → xs[i]? = some x, fun i H => ∃ xs, SqT K H a xs ∧ xs.length ≤ i⟩
theorem tin1 {A : Around} (h : A.handled = none) : A.in1.handled = none := h
theorem turn_enumT {P : Program} {w : World} {K : PySem.W.Frag} {elts : List Expr} {kk : Nat} {tpos : Pos} (a e it : Addr) (hai : a ≠ it) (hae : a ≠ e) :
    Turn P w K (.Tuple elts kk tpos) (IteT K a) [e, it] e (fun i h => (∃ old, IsEnum h e it ((i : Nat) : Int) old) ∧ h.IsTupleIter it a i ∧ e ≠ it) where
  mem := by simp
  obj := fun i h st b hb => by
    obtain ⟨⟨old, he⟩, ⟨o, ho, hc, hd⟩, _⟩ := st
    have e' : b = e ∨ b = it := by simpa using hb
    rcases e' with z | z
    · rw [z]; exact ⟨_, he, fun v q => nomatch q⟩
    · rw [z]; exact ⟨o, ho, fun v q => by rw [hd] at q; cases q⟩
  keep := fun i h h' st k => let ⟨⟨old, he⟩, hi, hne⟩ := st; ⟨⟨old, k e (by simp) _ he⟩, hi.at fun o q => k it (by simp) o q, hne⟩
  item := by
    intro X hP hw hK hc i pins s σ H E I hf st hg
    subst hP hw hK
    obtain ⟨⟨old, he⟩, hit, hne⟩ := st
    obtain ⟨xs, x, hq, hx⟩ := hg
    obtain ⟨its, rv, p, hz⟩ := I.tuple hq
    obtain ⟨u, hu, ru⟩ := rv.get hx
    have hel : e < s.heap.objs.size := Heap.lt_size he
    have hil : it < s.heap.objs.size := by obtain ⟨_, q, _⟩ := hit; exact Heap.lt_size q
    have hp : s.heap.IsTuple a its.toArray := p
    have hlt : i < its.toArray.size := by
      have := (List.getElem?_eq_some_iff.mp hu).1
      simpa using this
    refine wpAny_pyNext_enum_itemC (fp := [it, a]) (Draws.tuple (tin1 (I.ok.hd hc)) it a hai its.toArray) he ⟨hit, hp⟩ hlt hne (by
      intro z
      rcases List.mem_cons.mp z with z | z
      · exact hne z
      · exact hae (List.mem_singleton.mp z).symm) fun x' h' tk hP ho hst' hT hsz hk => ?_
    have ex : u = x' := by
      have h1 : its.toArray[i]? = some x' := hP
      have h2 : its.toArray[i]? = some u := by simpa using hu
      rw [h2] at h1
      exact Option.some.inj h1
    subst ex
    refine ⟨_, rfl, wpAny_letOwnedTupleGo_enum (s := { s with heap := h', toks := tk + 1 }) ho fun h'' he' sb => ?_⟩
    have hT2 : h''.get? s.heap.objs.size = some { cls := .type "tuple", data := .seq #[.int i tk, u] } := (sb.2 _ (Nat.ne_of_gt hel)).trans hT
    have new : ObjOk X.prog X.w (upd H s.heap.objs.size (.tup [.int (i : Nat), x])) h'' s.heap.objs.size (.tup [.int (i : Nat), x]) :=
      ⟨by show 2 ≤ sizeLine; decide, [.int i tk, u], .cons ⟨_, rfl⟩ (.cons ru .nil), ⟨_, hT2, rfl, _, rfl⟩⟩
    have I1 : Inv X pins σ (upd H s.heap.objs.size (.tup [.int (i : Nat), x])) { s with heap := h'', toks := tk + 1 } :=
      I.turnedNew (ch := [e, it]) (fun b ob hb q => (sb.2 b (fun z => hb (by simp [z]))).trans (hk b ob (fun z => hb (by simp [z])) (fun z => hb (by simp [z])) q)) hf (Nat.le_refl _) new
    refine ⟨.ref s.heap.objs.size, _, I1, rfl, ⟨_, x, rfl, I.hok.fresh (Nat.le_refl _), rfl, fun ys hy => by rw [I.tuple_inj hy hq]; exact hx⟩, ⟨⟨u, ?_⟩, hst'.1.at fun o q => (sb.2 it (Ne.symm hne)).trans q, hne⟩, fun b hb => ?_⟩
    · have e1 : ((i + 1 : Nat) : Int) = (i : Int) + 1 := by omega
      rw [e1]; exact he'
    · have hb' : b < s.heap.objs.size := by
        have e' : b = e ∨ b = it := by simpa using hb
        rcases e' with z | z
        · rw [z]; exact hel
        · rw [z]; exact hil
      rw [upd_ne (Nat.ne_of_lt hb')]
      exact (hf b hb).1
  done := by
    intro X hP hw hK hc i pins s σ H E I hf st hg
    subst hP hw hK
    obtain ⟨⟨old, he⟩, hit, hne⟩ := st
    obtain ⟨xs, hq, hx⟩ := hg
    obtain ⟨its, rv, p, hz⟩ := I.tuple hq
    obtain ⟨f0, f1, f2, f3, f4, f5⟩ := hf it (by simp)
    have hl := rv.length
    have hp : s.heap.IsTuple a its.toArray := p
    have D := Draws.tuple (prog := X.prog) (w := X.w) (tin1 (I.ok.hd hc)) it a hai its.toArray
    have hnone : its.toArray[i]? = none := by
      rw [Array.getElem?_eq_none_iff]
      simp only [List.size_toArray]
      omega
    refine wpAny_pyNext_enum_endD (A := X.A) (n := i) (fp := [it, a]) (P := fun _ _ => True) (St := fun j h => j = i ∧ h.IsTupleIter it a i ∧ h.IsTuple a its.toArray)
      ⟨fun j h st => D.live i h st.2, fun j h h' st k => ⟨st.1, D.frame i h h' st.2 k⟩, fun j s Q E hj st hQ => absurd st.1 (Nat.ne_of_lt hj), fun s Q E st hE => wpAny_nextOf_tuple_end (tin1 (I.ok.hd hc)) st.2.1 st.2.2 hnone hE⟩ he ⟨rfl, hit, hp⟩ fun h' eb => ⟨rfl, I.turned (t' := s.toks) (fun b o hb q => eb b o hb q) f0 f1 f3 f4 f5⟩
  self := fun A i s Q E st h => let ⟨⟨_, he⟩, _⟩ := st; wpAny_pyIter_enum he h

section
variable {X : Cx} {tg : Expr}
/-- what a loop may go over -/
def iAny (K : PySem.W.Frag) (tl : TE) : TI := fun σ H R => tl σ H fun x H1 =>
  (∃ a xs, x = .ref a ∧ SqL K H1 a xs ∧ R (Itl K a) H1) ∨ (∃ a xs, x = .ref a ∧ SqT K H1 a xs ∧ R (Itt K a) H1) ∨ (∃ z, x = .str z ∧ R (Its z) H1)
theorem pi_any {l : Expr} {tl : TE} (hl : PE X l tl) : PI X tg l (iAny X.K tl) := by
  refine ⟨fun pins s σ H R I h => ?_⟩
  refine thn (hl.run pins s σ H _ I h) fun v s1 ⟨x, H1, I1, r1, q1⟩ => ?_
  rcases q1 with ⟨a, xs, e, hq, q⟩ | ⟨a, xs, e, hq, q⟩ | ⟨z, e, q⟩
  · subst e
    cases r1
    obtain ⟨its, rv, p, hz⟩ := I1.list hq
    refine wpAny_pyIter_list p.isList ?_
    refine ⟨s1.heap.objs.size, [s1.heap.objs.size], _, _, H1, rfl, I1.kept (t' := s1.toks) fun b o e => Heap.get?_push_of_some _ e, turn_list a _, ⟨_, Heap.get?_push_size _ rfl, rfl, rfl⟩, fun b hb => ?_, q⟩
    have e : b = s1.heap.objs.size := by simpa using hb
    subst e
    exact I1.fpOk (Nat.le_refl _) (I1.hok.fresh (Nat.le_refl _))
  · subst e
    cases r1
    obtain ⟨its, rv, p, hz⟩ := I1.tuple hq
    refine wpAny_pyIter_tuple (show s1.heap.IsTuple a its.toArray from p) ?_
    refine ⟨s1.heap.objs.size, [s1.heap.objs.size], _, _, H1, rfl, I1.kept (t' := s1.toks) fun b o e => Heap.get?_push_of_some _ e, turn_tuple a _, ⟨_, Heap.get?_push_size _ rfl, rfl, rfl⟩, fun b hb => ?_, q⟩
    have e : b = s1.heap.objs.size := by simpa using hb
    subst e
    exact I1.fpOk (Nat.le_refl _) (I1.hok.fresh (Nat.le_refl _))
  · subst e
    obtain ⟨t, rfl⟩ := r1
    cases ha : z.cps.all (· < 128)
    · exact wpAny_pyIter_wide ha (pi_one (tk := s1.toks) I1 _ (turn_str _ z t "str_iterator" (.inr rfl)) ⟨_, Heap.get?_push_size _ rfl, rfl, rfl⟩ q)
    · exact wpAny_pyIter_ascii ha (pi_one (tk := s1.toks) I1 _ (turn_str _ z t "str_ascii_iterator" (.inl rfl)) ⟨_, Heap.get?_push_size _ rfl, rfl, rfl⟩ q)
def iEnumA (K : PySem.W.Frag) (ta : TA) : TI := fun σ H R => ta σ H fun vs H1 =>
  (∃ a xs, vs = [.ref a] ∧ SqL K H1 a xs ∧ R (Ite K a) H1) ∨ (∃ a xs, vs = [.ref a] ∧ SqT K H1 a xs ∧ R (IteT K a) H1)
theorem pi_enumA {e : Expr} {ta : TA} {p pos tpos : Pos} {elts : List Expr} {kk : Nat} (hg : Gl X "enumerate") (hm : X.mg "enumerate" = none) (ha : PA X [e] ta) (hs : starEach [e] X.env = [(false, PySem.eval e X.env)]) :
    PI X (.Tuple elts kk tpos) (.Call (.Name "enumerate" p) [e] [] pos) (iEnumA X.K ta) := by
  refine ⟨fun pins s σ H R I h => ?_⟩
  refine Call_ (ld_blt I hg hm boot_enumerate (PyProof.Rows.callWith_type1 (thn (ha.run pos pins s σ H _ I h) fun us s1 ⟨vs, H1, I1, r1, q1⟩ => ?_) hs rfl))
  have fin : ∀ b, (b = s1.heap.objs.size + 1 ∨ b = s1.heap.objs.size) → FpOk X pins H1 b := fun b hb => by
    have hle : s1.heap.objs.size ≤ b := by
      rcases hb with z | z
      · rw [z]; exact Nat.le_add_right _ _
      · rw [z]; exact Nat.le_refl _
    exact I1.fpOk hle (I1.hok.fresh hle)
  rcases q1 with ⟨a, xs, ex, hq, q⟩ | ⟨a, xs, ex, hq, q⟩
  · subst ex
    cases r1 with
    | cons r rr =>
      cases rr
      cases r
      obtain ⟨its, rv, p', hz⟩ := I1.list hq
      refine call_enumerate_list p'.isList fun h' he hit hsz hk => wpAny_pyIter_enum he ?_
      have I2 : Inv X pins σ H1 { s1 with heap := h' } := I1.kept (t' := s1.toks) hk
      exact ⟨s1.heap.objs.size + 1, [s1.heap.objs.size + 1, s1.heap.objs.size], _, _, H1, rfl, I2, turn_enum a (s1.heap.objs.size + 1) s1.heap.objs.size, ⟨⟨.none, he⟩, hit, Nat.succ_ne_self _⟩, fun b hb => fin b (by simpa using hb), q⟩
  · subst ex
    cases r1 with
    | cons r rr =>
      cases rr
      cases r
      obtain ⟨its, rv, p', hz⟩ := I1.tuple hq
      have hp : s1.heap.IsTuple a its.toArray := p'
      have hlt : a < s1.heap.objs.size := by obtain ⟨_, z, _⟩ := hp; exact Heap.lt_size z
      refine call_enumerate_B (begins_tuple a its.toArray) hp fun h' he hit hsz hk => wpAny_pyIter_enum he ?_
      have I2 : Inv X pins σ H1 { s1 with heap := h' } := I1.kept (t' := s1.toks) hk
      exact ⟨s1.heap.objs.size + 1, [s1.heap.objs.size + 1, s1.heap.objs.size], _, _, H1, rfl, I2, turn_enumT a (s1.heap.objs.size + 1) s1.heap.objs.size (Nat.ne_of_lt hlt) (Nat.ne_of_lt (Nat.lt_succ_of_lt hlt)), ⟨⟨.none, he⟩, ⟨_, hit, rfl, rfl⟩, Nat.succ_ne_self _⟩, fun b hb => fin b (by simpa using hb), q⟩
end

/-! ### loops over data -/
section
variable (K : PySem.W.Frag) (cl : Str → Addr)
structure WalkD (J : L2.It) (r0 : Rt) (its : List D) : Prop where
  go : ∀ (r : Rt) (tab : List Ob) (H : Hp) (i : Nat), Abs K cl (r0 ++ r) tab H → i < its.length → J.go i H
  stop : ∀ (r : Rt) (tab : List Ob) (H : Hp), Abs K cl (r0 ++ r) tab H → J.stop its.length H
  yld : ∀ (r : Rt) (tab : List Ob) (H : Hp) (i : Nat) (x : V) (H' : Hp), Abs K cl (r0 ++ r) tab H → i < its.length → J.yld i H x H' → ∃ d, its[i]? = some d ∧ Abs K cl ((.d d, x) :: (r0 ++ r)) tab H'
end
section
variable {K : PySem.W.Frag} {cl : Str → Addr} {Z H : Hp} {al : List Addr} {R : Rt} {tab : List Ob} {v w : V} {x y e : Ev} {xs ys : List D} {vs : List V} {a b : Addr}
theorem its_l (A : AbsAt K cl Z al R tab H) (hx : (x, v) ∈ R) (h : itemsOf tab x = some xs) (hl : isL x = true) : ∃ a vs, v = .ref a ∧ SqL K H a vs ∧ Rps K Z al xs vs := by
  have q := A.roots _ hx
  cases x with
  | o xs =>
    cases h
    cases q with
    | o e1 e2 => exact ⟨_, _, rfl, SqL.of e1, e2⟩
  | od _ _ => cases hl
  | d x =>
    cases q with
    | d q =>
      cases x <;> first | (cases hl; done) | skip
      · cases h
        cases q with
        | lst e1 e2 => exact ⟨_, _, rfl, SqL.of (A.same _ _ e1), e2⟩
      · cases h
        cases q with
        | kl e1 e2 => exact ⟨_, _, rfl, Same.seq A.same e1, e2⟩
theorem its_t (A : AbsAt K cl Z al R tab H) (hx : (x, v) ∈ R) (h : itemsOf tab x = some xs) (hl : isTp x = true) : ∃ a vs, v = .ref a ∧ SqT K H a vs ∧ Rps K Z al xs vs := by
  have q := A.roots _ hx
  cases x with
  | o xs => cases hl
  | od _ _ => cases hl
  | d x =>
    cases q with
    | d q =>
      cases x <;> first | (cases hl; done) | skip
      · cases h
        cases q with
        | tup e1 e2 => exact ⟨_, _, rfl, SqT.of (A.same _ _ e1), e2⟩
      · cases h
        cases q with
        | kt e1 e2 => exact ⟨_, _, rfl, seqT_mono A.same e1, e2⟩
theorem its_kind (h : itemsOf tab x = some xs) : isL x = true ∨ isTp x = true ∨ ∃ z, x = .d (.str z) ∧ xs = z.cps.toList.map fun c => .str ⟨#[c]⟩ := by
  unfold itemsOf at h
  split at h
  · exact .inl rfl
  · exact .inl rfl
  · exact .inr (.inl rfl)
  · exact .inl rfl
  · exact .inr (.inl rfl)
  · cases h; exact .inr (.inr ⟨_, rfl, rfl⟩)
  · cases h
theorem its_tab {tab' : List Ob} (h : itemsOf tab x = some xs) : itemsOf tab' x = some xs := by
  unfold itemsOf at h ⊢
  exact h
theorem get_lt {α : Type} {l : List α} {i : Nat} (h : i < l.length) : ∃ x, l[i]? = some x := ⟨l[i], List.getElem?_eq_getElem h⟩
theorem walkD_l (hx : itemsOf tab x = some xs) (hl : isL x = true) : WalkD K cl (Itl K a) [(x, .ref a)] xs where
  go := fun r tab H i ⟨Z, al, A⟩ hi => by
    obtain ⟨b, vs, e, h1, h2⟩ := its_l A (x := x) (v := .ref a) (by simp) (its_tab hx) hl
    cases e
    have hi' : i < vs.length := by rw [← h2.length]; exact hi
    obtain ⟨u, hu⟩ := get_lt hi'
    exact ⟨vs, u, h1, hu⟩
  stop := fun r tab H ⟨Z, al, A⟩ => by
    obtain ⟨b, vs, e, h1, h2⟩ := its_l A (x := x) (v := .ref a) (by simp) (its_tab hx) hl
    cases e
    exact ⟨vs, h1, by rw [h2.length]; exact Nat.le_refl _⟩
  yld := fun r tab H i u H' ⟨Z, al, A⟩ hi y => by
    obtain ⟨b, vs, e, h1, h2⟩ := its_l A (x := x) (v := .ref a) (by simp) (its_tab hx) hl
    cases e
    obtain ⟨rfl, y⟩ := y
    obtain ⟨d, h3, h4⟩ := h2.getV (y _ h1)
    exact ⟨d, h3, (A.addD h4).abs⟩
theorem walkD_t (hx : itemsOf tab x = some xs) (hl : isTp x = true) : WalkD K cl (Itt K a) [(x, .ref a)] xs where
  go := fun r tab H i ⟨Z, al, A⟩ hi => by
    obtain ⟨b, vs, e, h1, h2⟩ := its_t A (x := x) (v := .ref a) (by simp) (its_tab hx) hl
    cases e
    have hi' : i < vs.length := by rw [← h2.length]; exact hi
    obtain ⟨u, hu⟩ := get_lt hi'
    exact ⟨vs, u, h1, hu⟩
  stop := fun r tab H ⟨Z, al, A⟩ => by
    obtain ⟨b, vs, e, h1, h2⟩ := its_t A (x := x) (v := .ref a) (by simp) (its_tab hx) hl
    cases e
    exact ⟨vs, h1, by rw [h2.length]; exact Nat.le_refl _⟩
  yld := fun r tab H i u H' ⟨Z, al, A⟩ hi y => by
    obtain ⟨b, vs, e, h1, h2⟩ := its_t A (x := x) (v := .ref a) (by simp) (its_tab hx) hl
    cases e
    obtain ⟨rfl, y⟩ := y
    obtain ⟨d, h3, h4⟩ := h2.getV (y _ h1)
    exact ⟨d, h3, (A.addD h4).abs⟩
theorem walkD_s {z : Str} : WalkD K cl (Its z) [(.d (.str z), v)] (z.cps.toList.map fun c => .str ⟨#[c]⟩) where
  go := fun r tab H i A hi => by
    rw [List.length_map, Array.length_toList] at hi
    exact hi
  stop := fun r tab H A => by
    show z.cps.size ≤ _
    rw [List.length_map, Array.length_toList]
    exact Nat.le_refl _
  yld := fun r tab H i u H' ⟨Z, al, A⟩ hi y => by
    obtain ⟨rfl, c, h1, rfl⟩ := y
    exact ⟨.str ⟨#[c]⟩, by rw [List.getElem?_map]; simp [h1], (A.addD (.str _)).abs⟩
theorem walkD_r {lo hi : Int} : WalkD K cl (Itr lo (hi - lo).toNat) [] (rngD lo hi) where
  go := fun r tab H i A h => by
    unfold rngD at h
    rw [List.length_map, List.length_range] at h
    exact h
  stop := fun r tab H A => by
    unfold rngD
    rw [List.length_map, List.length_range]
    exact Nat.le_refl _
  yld := fun r tab H i u H' ⟨Z, al, A⟩ h y => by
    unfold rngD at h
    rw [List.length_map, List.length_range] at h
    obtain ⟨rfl, rfl⟩ := y
    exact ⟨.int (lo + i), by unfold rngD; rw [List.getElem?_map, List.getElem?_range h]; rfl, (A.addD (.int _)).abs⟩
theorem enumD_get (xs : List D) (i : Nat) : (enumD xs)[i]? = (xs[i]?).map fun d => .tup [.int (i : Nat), d] := by
  unfold enumD
  rw [List.getElem?_map, List.getElem?_zipIdx]
  cases xs[i]? with
  | none => rfl
  | some d => simp
theorem enumD_length (xs : List D) : (enumD xs).length = xs.length := by
  unfold enumD
  rw [List.length_map, List.length_zipIdx]
theorem walkD_el (hx : itemsOf tab x = some xs) (hl : isL x = true) : WalkD K cl (Ite K a) [(x, .ref a)] (enumD xs) where
  go := fun r tab H i ⟨Z, al, A⟩ hi => by
    obtain ⟨b, vs, e, h1, h2⟩ := its_l A (x := x) (v := .ref a) (by simp) (its_tab hx) hl
    cases e
    rw [enumD_length] at hi
    have hi' : i < vs.length := by rw [← h2.length]; exact hi
    obtain ⟨u, hu⟩ := get_lt hi'
    exact ⟨vs, u, h1, hu⟩
  stop := fun r tab H ⟨Z, al, A⟩ => by
    obtain ⟨b, vs, e, h1, h2⟩ := its_l A (x := x) (v := .ref a) (by simp) (its_tab hx) hl
    cases e
    exact ⟨vs, h1, by rw [enumD_length, h2.length]; exact Nat.le_refl _⟩
  yld := fun r tab H i u H' ⟨Z, al, A⟩ hi y => by
    obtain ⟨b, vs, e, h1, h2⟩ := its_l A (x := x) (v := .ref a) (by simp) (its_tab hx) hl
    cases e
    obtain ⟨T, z, rfl, hT, rfl, y⟩ := y
    obtain ⟨d, h3, h4⟩ := h2.getV (y _ h1)
    exact ⟨.tup [.int (i : Nat), d], by rw [enumD_get, h3]; rfl, (A.newTup hT (.cons (.int _) (.cons h4 .nil))).abs⟩
theorem walkD_et (hx : itemsOf tab x = some xs) (hl : isTp x = true) : WalkD K cl (IteT K a) [(x, .ref a)] (enumD xs) where
  go := fun r tab H i ⟨Z, al, A⟩ hi => by
    obtain ⟨b, vs, e, h1, h2⟩ := its_t A (x := x) (v := .ref a) (by simp) (its_tab hx) hl
    cases e
    rw [enumD_length] at hi
    have hi' : i < vs.length := by rw [← h2.length]; exact hi
    obtain ⟨u, hu⟩ := get_lt hi'
    exact ⟨vs, u, h1, hu⟩
  stop := fun r tab H ⟨Z, al, A⟩ => by
    obtain ⟨b, vs, e, h1, h2⟩ := its_t A (x := x) (v := .ref a) (by simp) (its_tab hx) hl
    cases e
    exact ⟨vs, h1, by rw [enumD_length, h2.length]; exact Nat.le_refl _⟩
  yld := fun r tab H i u H' ⟨Z, al, A⟩ hi y => by
    obtain ⟨b, vs, e, h1, h2⟩ := its_t A (x := x) (v := .ref a) (by simp) (its_tab hx) hl
    cases e
    obtain ⟨T, z, rfl, hT, rfl, y⟩ := y
    obtain ⟨d, h3, h4⟩ := h2.getV (y _ h1)
    exact ⟨.tup [.int (i : Nat), d], by rw [enumD_get, h3]; rfl, (A.newTup hT (.cons (.int _) (.cons h4 .nil))).abs⟩
theorem zipD_get (xs ys : List D) (i : Nat) {d e : D} (h1 : xs[i]? = some d) (h2 : ys[i]? = some e) : (zipD xs ys)[i]? = some (.tup [d, e]) := by
  unfold zipD
  rw [List.getElem?_map, List.getElem?_zip_eq_some (z := (d, e)) |>.mpr ⟨h1, h2⟩]
  rfl
theorem zipD_length (xs ys : List D) : (zipD xs ys).length = min xs.length ys.length := by
  unfold zipD
  rw [List.length_map, List.length_zip]
theorem walkD_zl (hx : itemsOf tab x = some xs) (hl : isL x = true) (hy : itemsOf tab y = some ys) (hl2 : isL y = true) : WalkD K cl (Itz K a b) [(y, .ref b), (x, .ref a)] (zipD xs ys) where
  go := fun r tab H i ⟨Z, al, A⟩ hi => by
    obtain ⟨_, vs, e, h1, h2⟩ := its_l A (x := x) (v := .ref a) (by simp) (its_tab hx) hl
    cases e
    obtain ⟨_, us, e, h3, h4⟩ := its_l A (x := y) (v := .ref b) (by simp) (its_tab hy) hl2
    cases e
    rw [zipD_length] at hi
    have l1 := h2.length
    have l2 := h4.length
    obtain ⟨u, hu⟩ := get_lt (show i < vs.length by omega)
    obtain ⟨u2, hu2⟩ := get_lt (show i < us.length by omega)
    exact ⟨vs, us, u, u2, h1, h3, hu, hu2⟩
  stop := fun r tab H ⟨Z, al, A⟩ => by
    obtain ⟨_, vs, e, h1, h2⟩ := its_l A (x := x) (v := .ref a) (by simp) (its_tab hx) hl
    cases e
    obtain ⟨_, us, e, h3, h4⟩ := its_l A (x := y) (v := .ref b) (by simp) (its_tab hy) hl2
    cases e
    have l1 := h2.length
    have l2 := h4.length
    exact ⟨vs, us, h1, h3, by rw [zipD_length]; omega⟩
  yld := fun r tab H i u H' ⟨Z, al, A⟩ hi yy => by
    obtain ⟨_, vs, e, h1, h2⟩ := its_l A (x := x) (v := .ref a) (by simp) (its_tab hx) hl
    cases e
    obtain ⟨_, us, e, h3, h4⟩ := its_l A (x := y) (v := .ref b) (by simp) (its_tab hy) hl2
    cases e
    obtain ⟨T, z, z2, rfl, hT, rfl, y1, y2⟩ := yy
    obtain ⟨d, h5, h6⟩ := h2.getV (y1 _ h1)
    obtain ⟨d2, h7, h8⟩ := h4.getV (y2 _ h3)
    exact ⟨.tup [d, d2], zipD_get _ _ _ h5 h7, (A.newTup hT (.cons h6 (.cons h8 .nil))).abs⟩
theorem walkD_zt (hx : itemsOf tab x = some xs) (hl : isTp x = true) (hy : itemsOf tab y = some ys) (hl2 : isTp y = true) : WalkD K cl (RZ.ItzT K a b) [(y, .ref b), (x, .ref a)] (zipD xs ys) where
  go := fun r tab H i ⟨Z, al, A⟩ hi => by
    obtain ⟨_, vs, e, h1, h2⟩ := its_t A (x := x) (v := .ref a) (by simp) (its_tab hx) hl
    cases e
    obtain ⟨_, us, e, h3, h4⟩ := its_t A (x := y) (v := .ref b) (by simp) (its_tab hy) hl2
    cases e
    rw [zipD_length] at hi
    have l1 := h2.length
    have l2 := h4.length
    obtain ⟨u, hu⟩ := get_lt (show i < vs.length by omega)
    obtain ⟨u2, hu2⟩ := get_lt (show i < us.length by omega)
    exact ⟨vs, us, u, u2, h1, h3, hu, hu2⟩
  stop := fun r tab H ⟨Z, al, A⟩ => by
    obtain ⟨_, vs, e, h1, h2⟩ := its_t A (x := x) (v := .ref a) (by simp) (its_tab hx) hl
    cases e
    obtain ⟨_, us, e, h3, h4⟩ := its_t A (x := y) (v := .ref b) (by simp) (its_tab hy) hl2
    cases e
    have l1 := h2.length
    have l2 := h4.length
    exact ⟨vs, us, h1, h3, by rw [zipD_length]; omega⟩
  yld := fun r tab H i u H' ⟨Z, al, A⟩ hi yy => by
    obtain ⟨_, vs, e, h1, h2⟩ := its_t A (x := x) (v := .ref a) (by simp) (its_tab hx) hl
    cases e
    obtain ⟨_, us, e, h3, h4⟩ := its_t A (x := y) (v := .ref b) (by simp) (its_tab hy) hl2
    cases e
    obtain ⟨T, z, z2, rfl, hT, rfl, y1, y2⟩ := yy
    obtain ⟨d, h5, h6⟩ := h2.getV (y1 _ h1)
    obtain ⟨d2, h7, h8⟩ := h4.getV (y2 _ h3)
    exact ⟨.tup [d, d2], zipD_get _ _ _ h5 h7, (A.newTup hT (.cons h6 (.cons h8 .nil))).abs⟩
end
end SH

end
section
set_option Elab.async false
set_option linter.all false
set_option maxRecDepth 100000
set_option maxHeartbeats 1000000
namespace SH
open PySem PySem.Spec L2 PyProof.Rows

/-! ### does a text of the row read as a term of ours -/
structure Gs where
  bt : List Str
  con : List Str
  fns : List (Str × Nat)
  exc : List Str
def vis (sc : Scope) (x : Str) : Bool := match sc.names.lookup x with
  | some .local => true
  | some .cell => true
  | some .free => true
  | _ => false
def gl (sc : Scope) (x : Str) : Bool := match sc.names.lookup x with
  | some .globalImplicit => true
  | _ => false
def loc (sc : Scope) (x : Str) : Bool := match sc.names.lookup x with
  | some .local => true
  | some .cell => true
  | _ => false
def okN (x : Str) : Bool := !(x == ("__debug__" : Str)) && !(x == ("__classdict__" : Str)) && !(x == ("__name__" : Str))
def noStar : Expr → Bool
  | .Starred .. => false
  | _ => true
def noSet : Expr → Bool
  | .Set .. => false
  | _ => true
def noSl : Expr → Bool
  | .Slice .. => false
  | _ => true
def isTup : Expr → Bool
  | .Tuple .. => true
  | _ => false
def isNop : Ex → Bool
  | .nop => true
  | _ => false
/-- a test by its value -/
def plainT : Expr → Bool
  | .UnaryOp .Not _ _ => false
  | .BoolOp .. => false
  | .IfExp .. => false
  | .Compare .. => false
  | _ => true
mutual
def mTg (N : List Str) (sc : Scope) : Tg → Expr → Bool
  | .name i, .Name x _ => decide (N[i]? = some x) && loc sc x
  | .tup gs, .Tuple es _ _ => mTgs N sc gs es
  | _, _ => false
def mTgs (N : List Str) (sc : Scope) : Tgs → List Expr → Bool
  | .nil, [] => true
  | .cons g r, e :: es => noStar e && mTg N sc g e && mTgs N sc r es
  | _, _ => false
end
mutual
def tgIn (own : List Nat) : Tg → Bool
  | .name i => own.contains i
  | .tup gs => tgsIn own gs
def tgsIn (own : List Nat) : Tgs → Bool
  | .nil => true
  | .cons g r => tgIn own g && tgsIn own r
end
def mName (sc : Scope) (f : Str) (e : Expr) : Bool := match e with
  | .Name x _ => decide (x = f) && gl sc f && okN f
  | _ => false
def mTys (G : Gs) (sc : Scope) : List Ty → List Expr → Bool
  | [], [] => true
  | T :: r, e :: es => noStar e && mName sc (tyN T) e && G.bt.contains (tyN T) && mTys G sc r es
  | _, _ => false
def mVar (N : List Str) (sc : Scope) (i : Nat) (e : Expr) : Bool := match e with
  | .Name x _ => decide (N[i]? = some x) && vis sc x && okN x
  | _ => false
mutual
def mE (G : Gs) (N : List Str) (sc : Scope) : Ex → Expr → Bool
  | .var i, x => mVar N sc i x
  | .mv i, x => mVar N sc i x
  | .bor i, x => mVar N sc i x
  | .non, x => (match x with
    | .Constant .none _ _ => true
    | _ => false)
  | .bl b, x => (match x with
    | .Constant (.bool c) _ _ => decide (b = c)
    | _ => false)
  | .int i, x => (match x with
    | .Constant (.int j) _ _ => decide (i = j)
    | _ => false)
  | .str z, x => (match x with
    | .Constant (.str y) _ _ => decide (z = y)
    | _ => false)
  | .glob z, x => mName sc z x && G.con.contains z
  | .op o a b, x => (match x with
    | .BinOp a' o' b' _ => decide (opOf o = o') && mE G N sc a a' && mE G N sc b b'
    | _ => false)
  | .neg a, x => (match x with
    | .UnaryOp .USub a' _ => mE G N sc a a'
    | _ => false)
  | .cmp o a b, x => (match x with
    | .Compare a' [o'] [b'] _ => decide (copOf o = o') && noSet b' && mE G N sc a a' && mE G N sc b b'
    | _ => false)
  | .chain o1 o2 a b c, x => (match x with
    | .Compare a' [o1', o2'] [b', c'] _ => decide (copOf o1 = o1') && decide (copOf o2 = o2') && noSet b' && noSet c' && mE G N sc a a' && mE G N sc b b' && mE G N sc c c'
    | _ => false)
  | .isN n a, x => (match x with
    | .Compare a' [o'] [.Constant .none _ _] _ => decide (o' = if n then .IsNot else .Is) && mE G N sc a a'
    | _ => false)
  | .and_ a b, x => (match x with
    | .BoolOp .And (a' :: b' :: r) p => mE G N sc a a' && (match r with
      | [] => mE G N sc b b'
      | r => mE G N sc b (.BoolOp .And (b' :: r) p))
    | _ => false)
  | .or_ a b, x => (match x with
    | .BoolOp .Or (a' :: b' :: r) p => mE G N sc a a' && (match r with
      | [] => mE G N sc b b'
      | r => mE G N sc b (.BoolOp .Or (b' :: r) p))
    | _ => false)
  | .not_ a, x => (match x with
    | .UnaryOp .Not a' _ => mE G N sc a a'
    | _ => false)
  | .ite_ c a b, x => (match x with
    | .IfExp c' a' b' _ => mE G N sc c c' && mE G N sc a a' && mE G N sc b b'
    | _ => false)
  | .tup es, x => (match x with
    | .Tuple es' _ _ => mEs G N sc es es'
    | _ => false)
  | .lst es, x => (match x with
    | .List es' _ => mEs G N sc es es'
    | _ => false)
  | .ix a b, x => (match x with
    | .Subscript a' b' _ => noSl b' && mE G N sc a a' && mE G N sc b b'
    | _ => false)
  | .sl a lo hi, x => (match x with
    | .Subscript a' (.Slice lo' hi' none _) _ => mE G N sc a a' && (match lo' with
      | none => isNop lo
      | some lo' => !isNop lo && mE G N sc lo lo') && (match hi' with
      | none => isNop hi
      | some hi' => !isNop hi && mE G N sc hi hi')
    | _ => false)
  | .nop, _ => false
  | .call f es, x => (match x with
    | .Call e es' [] _ => mName sc f e && decide ((f, es.len) ∈ G.fns) && mEs G N sc es es'
    | _ => false)
  | .bi b es, x => (match x with
    | .Call e es' [] _ => mName sc (bName b) e && G.bt.contains (bName b) && mEs G N sc es es' && !es'.isEmpty
    | _ => false)
  | .isi a T, x => (match x with
    | .Call e [a', t'] [] _ => mName sc "isinstance" e && G.bt.contains "isinstance" && noStar a' && mE G N sc a a' && noStar t' && mName sc (tyN T) t' && G.bt.contains (tyN T)
    | _ => false)
  | .isit a Ts, x => (match x with
    | .Call e [a', .Tuple ts _ _] [] _ => mName sc "isinstance" e && G.bt.contains "isinstance" && noStar a' && mE G N sc a a' && mTys G sc Ts ts
    | _ => false)
  | .comp own g it c e, x => (match x with
    | .ListComp e' [⟨tg, iter, ifs, 0⟩] scope _ => blkC N sc scope own && tgIn (own.map (·.2)) g && mTg N scope g tg && mI G N sc tg it iter && (match ifs with
      | [] => isNop c
      | [c'] => !isNop c && mE G N (relS scope sc) c c'
      | _ => false) && mE G N (relS scope sc) e e'
    | _ => false)
  | .pop i k, x => (match x with
    | .Call (.Attribute o a ap) [k'] [] p => decide (a = ("pop" : Str)) && mVar N sc i o && noStar k' && (ap.endLine == p.line) && mE G N sc k k'
    | _ => false)
  | .share e, a => mE G N sc e a
def mEs (G : Gs) (N : List Str) (sc : Scope) : Exs → List Expr → Bool
  | .nil, as => as.isEmpty
  | .cons e r, as => (match as with
    | a :: as => noStar a && mE G N sc e a && mEs G N sc r as
    | _ => false)
def mI (G : Gs) (N : List Str) (sc : Scope) (tg : Expr) : Gen → Expr → Bool
  | .seq e, a => noSet a && mE G N sc e a
  | .enum e, x => (match x with
    | .Call f [a] [] _ => isTup tg && mName sc "enumerate" f && G.bt.contains "enumerate" && noStar a && mE G N sc e a
    | _ => false)
  | .zip e1 e2, x => (match x with
    | .Call f [a, b] [] _ => isTup tg && mName sc "zip" f && G.bt.contains "zip" && noStar a && noStar b && mE G N sc e1 a && mE G N sc e2 b
    | _ => false)
  | .rng1 e, x => (match x with
    | .Call f [a] [] _ => mName sc "range" f && G.bt.contains "range" && noStar a && mE G N sc e a
    | _ => false)
  | .rng2 e1 e2, x => (match x with
    | .Call f [a, b] [] _ => mName sc "range" f && G.bt.contains "range" && noStar a && noStar b && mE G N sc e1 a && mE G N sc e2 b
    | _ => false)
end

/-! ### slots -/
inductive SlotR : Env → L2.St → Rt → Prop
  | nil : SlotR [] [] []
  | full {e : Ev} {v : V} {env : Env} {σ : L2.St} {r : Rt} : SlotR env σ r → SlotR (some e :: env) (some v :: σ) ((e, v) :: r)
  | void {x : Option V} {env : Env} {σ : L2.St} {r : Rt} : SlotR env σ r → SlotR (none :: env) (x :: σ) r
section
variable {env : Env} {σ : L2.St} {r : Rt} {i : Nat} {e : Ev}
theorem SlotR.length (h : SlotR env σ r) : env.length = σ.length := by
  induction h with
  | nil => rfl
  | full _ ih => simp [ih]
  | void _ ih => simp [ih]
theorem SlotR.at_some (h : SlotR env σ r) : ∀ {i : Nat}, env[i]? = some (some e) → ∃ v A B, σ[i]? = some (some v) ∧ r = A ++ (e, v) :: B ∧ (∀ e', SlotR (env.set i (some e')) σ (A ++ (e', v) :: B)) ∧ SlotR (env.set i none) σ (A ++ B) ∧
    (∀ e' v', SlotR (env.set i (some e')) (σ.set i (some v')) (A ++ (e', v') :: B)) ∧ ∀ x, SlotR (env.set i none) (σ.set i x) (A ++ B) := by
  induction h with
  | nil => intro i hi; simp at hi
  | @full e0 v env σ r h ih =>
    intro i hi
    cases i with
    | zero =>
      simp at hi
      subst hi
      exact ⟨v, [], r, rfl, rfl, fun e' =>  .full h,  .void h, fun e' v' =>  .full h, fun x =>  .void h⟩
    | succ i =>
      obtain ⟨v', A, B, h1, rfl, h2, h3, h4, h5⟩ := ih (i := i) (by simpa using hi)
      exact ⟨v', (e0, v) :: A, B, by simpa using h1, rfl, fun e' =>  .full (h2 e'),  .full h3, fun e' v' =>  .full (h4 e' v'), fun x =>  .full (h5 x)⟩
  | @void x env σ r h ih =>
    intro i hi
    cases i with
    | zero => simp at hi
    | succ i =>
      obtain ⟨v', A, B, h1, rfl, h2, h3, h4, h5⟩ := ih (i := i) (by simpa using hi)
      exact ⟨v', A, B, by simpa using h1, rfl, fun e' =>  .void (h2 e'),  .void h3, fun e' v' =>  .void (h4 e' v'), fun x =>  .void (h5 x)⟩
theorem SlotR.at_none (h : SlotR env σ r) : ∀ {i : Nat}, env[i]? = some none → ∃ x A B, σ[i]? = some x ∧ r = A ++ B ∧ (∀ v e', x = some v → SlotR (env.set i (some e')) σ (A ++ (e', v) :: B)) ∧
    (∀ e' v', SlotR (env.set i (some e')) (σ.set i (some v')) (A ++ (e', v') :: B)) ∧ ∀ x, SlotR env (σ.set i x) (A ++ B) := by
  induction h with
  | nil => intro i hi; simp at hi
  | @full e0 v env σ r h ih =>
    intro i hi
    cases i with
    | zero => simp at hi
    | succ i =>
      obtain ⟨x, A, B, h1, rfl, h2, h3, h4⟩ := ih (i := i) (by simpa using hi)
      exact ⟨x, (e0, v) :: A, B, by simpa using h1, rfl, fun v e' hx =>  .full (h2 v e' hx), fun e' v' =>  .full (h3 e' v'), fun x =>  .full (h4 x)⟩
  | @void x env σ r h ih =>
    intro i hi
    cases i with
    | zero =>
      refine ⟨x, [], r, rfl, rfl, fun v e' hx => ?_, fun e' v' =>  .full h, fun x =>  .void h⟩
      subst hx
      exact  .full h
    | succ i =>
      obtain ⟨x', A, B, h1, rfl, h2, h3, h4⟩ := ih (i := i) (by simpa using hi)
      exact ⟨x', A, B, by simpa using h1, rfl, fun v e' hx =>  .void (h2 v e' hx), fun e' v' =>  .void (h3 e' v'), fun x =>  .void (h4 x)⟩
theorem SlotR.start : ∀ {ds : List D} {vs : List V}, ds.length = vs.length → ∀ n : Nat, SlotR (ds.map (fun d => some (Ev.d d)) ++ List.replicate n none) (vs.map some ++ List.replicate n none) ((ds.map Ev.d).zip vs)
  | [], [], _, 0 => .nil
  | [], [], h, n + 1 => by
    show SlotR ([] ++ List.replicate (n + 1) none) ([] ++ List.replicate (n + 1) none) []
    rw [List.replicate_succ, List.replicate_succ]
    exact  .void (SlotR.start (ds := []) (vs := []) rfl n)
  | d :: ds, v :: vs, h, n =>  .full (SlotR.start (by simpa using h) n)
  | [], _ :: _, h, _ => by simp at h
  | _ :: _, [], h, _ => by simp at h
theorem slot_get (h : (env[i]?).join = some e) : env[i]? = some (some e) := by
  cases q : env[i]? with
  | none => rw [q] at h; cases h
  | some o => rw [q] at h; cases o with
    | none => cases h
    | some e' => cases h; rfl
end

/-! ### the state of a body -/
section
variable (K : PySem.W.Frag) (cl : Str → Addr)
def AbsS (env : Env) (σ : L2.St) (r : Rt) (tab : List Ob) (H : Hp) : Prop := ∃ p, SlotR env σ p ∧ Abs K cl (p ++ r) tab H
end
section
variable {K : PySem.W.Frag} {cl : Str → Addr} {env : Env} {σ : L2.St} {r r' : Rt} {tab tab' : List Ob} {H H' : Hp} {i : Nat} {e e' : Ev} {v : V} {d : D}
theorem AbsS.len (h : AbsS K cl env σ r tab H) : env.length = σ.length := let ⟨_, s, _⟩ := h; s.length
theorem AbsS.map (h : AbsS K cl env σ r tab H) (f : ∀ p, Abs K cl (p ++ r) tab H → Abs K cl (p ++ r') tab' H') : AbsS K cl env σ r' tab' H' := let ⟨p, s, A⟩ := h; ⟨p, s, f p A⟩
theorem pmid {q : Ev × V} {p : Rt} : (q :: (p ++ r)).Perm (p ++ q :: r) := List.perm_middle.symm
/-- by the root in front -/
theorem AbsS.front {q q' : Ev × V} (h : AbsS K cl env σ (q :: r) tab H) (f : ∀ p, Abs K cl (q :: p) tab H → Abs K cl (q' :: p) tab' H') : AbsS K cl env σ (q' :: r) tab' H' :=
  h.map fun p A => (f (p ++ r) (A.perm pmid)).perm pmid.symm
theorem AbsS.toD (h : AbsS K cl env σ ((e, v) :: r) tab H) : AbsS K cl env σ ((.d e.toD, v) :: r) tab H := h.front fun _ A => A.toD
theorem AbsS.sublist (h : AbsS K cl env σ r tab H) (s : r'.Sublist r) : AbsS K cl env σ r' tab H := h.map fun p A => A.sublist (List.Sublist.append (List.Sublist.refl p) s)
theorem AbsS.tail {q : Ev × V} (h : AbsS K cl env σ (q :: r) tab H) : AbsS K cl env σ r tab H := h.sublist (List.sublist_cons_self _ _)
theorem AbsS.perm (h : AbsS K cl env σ r tab H) (s : r'.Perm r) : AbsS K cl env σ r' tab H := h.map fun p A => A.perm (List.Perm.append_left p s)
theorem AbsS.addD (h : AbsS K cl env σ r tab H) (q : ∀ Z al, Rp K Z al d v) : AbsS K cl env σ ((.d d, v) :: r) tab H := h.map fun p A => (A.addD q).perm pmid.symm
/-- a slot is read: its data comes in front, the slot holds data from then on -/
theorem AbsS.var (h : AbsS K cl env σ r tab H) (he : env[i]? = some (some e)) : ∃ v, σ[i]? = some (some v) ∧ AbsS K cl (env.set i (some (.d e.toD))) σ ((.d e.toD, v) :: r) tab H := by
  obtain ⟨p, s, A⟩ := h
  obtain ⟨v, P, B, h1, rfl, h2, _⟩ := s.at_some he
  refine ⟨v, h1, _, h2 _, ?_⟩
  have A1 : Abs K cl ((e, v) :: (P ++ B ++ r)) tab H := A.perm (by
    rw [List.append_assoc, List.append_assoc, List.cons_append]
    exact List.perm_middle.symm)
  have A2 := A1.toD
  have A3 := A2.dup List.mem_cons_self
  refine A3.perm ?_
  have e1 : P ++ (Ev.d e.toD, v) :: B ++ (Ev.d e.toD, v) :: r = P ++ (Ev.d e.toD, v) :: (B ++ (Ev.d e.toD, v) :: r) := by simp
  rw [e1]
  refine (List.perm_middle (l₁ := P)).trans (List.Perm.cons _ ?_)
  have e2 : P ++ (B ++ (Ev.d e.toD, v) :: r) = (P ++ B) ++ (Ev.d e.toD, v) :: r := by simp
  rw [e2]
  exact List.perm_middle
/-- a slot gives what it holds -/
theorem AbsS.mv (h : AbsS K cl env σ r tab H) (he : env[i]? = some (some e)) : ∃ v, σ[i]? = some (some v) ∧ AbsS K cl (env.set i none) σ ((e, v) :: r) tab H := by
  obtain ⟨p, s, A⟩ := h
  obtain ⟨v, P, B, h1, rfl, _, h3, _⟩ := s.at_some he
  refine ⟨v, h1, _, h3, ?_⟩
  refine A.perm ?_
  rw [List.append_assoc, List.append_assoc, List.cons_append]
  have : (P ++ (B ++ (e, v) :: r)).Perm (P ++ (e, v) :: (B ++ r)) := List.Perm.append_left _ List.perm_middle
  exact this
/-- .. and gets it back -/
theorem AbsS.back (h : AbsS K cl env σ ((e, v) :: r) tab H) (he : env[i]? = some none) (hv : σ[i]? = some (some v)) : AbsS K cl (env.set i (some e)) σ r tab H := by
  obtain ⟨p, s, A⟩ := h
  obtain ⟨x, P, B, h1, rfl, h2, _⟩ := s.at_none he
  rw [hv] at h1
  refine ⟨_, h2 v e (Option.some.inj h1).symm, A.perm ?_⟩
  rw [List.append_assoc, List.append_assoc, List.cons_append]
  exact List.Perm.append_left _ List.perm_middle.symm
/-- a slot is stored -/
theorem AbsS.store (h : AbsS K cl env σ ((e, v) :: r) tab H) (hi : i < env.length) : AbsS K cl (env.set i (some e)) (σ.set i (some v)) r tab H := by
  obtain ⟨p, s, A⟩ := h
  cases q : env[i]? with
  | none => rw [List.getElem?_eq_getElem hi] at q; cases q
  | some o =>
    cases o with
    | none =>
      obtain ⟨x, P, B, h1, rfl, _, h3, _⟩ := s.at_none q
      refine ⟨_, h3 e v, A.perm ?_⟩
      rw [List.append_assoc, List.append_assoc, List.cons_append]
      exact List.Perm.append_left _ List.perm_middle.symm
    | some e0 =>
      obtain ⟨v0, P, B, h1, rfl, _, _, h4, _⟩ := s.at_some q
      refine ⟨_, h4 e v, ?_⟩
      have A1 : Abs K cl (P ++ (e, v) :: (B ++ r)) tab H := by
        refine (A.perm (r' := (e0, v0) :: (P ++ (e, v) :: (B ++ r))) ?_).tail
        rw [List.append_assoc, List.cons_append]
        refine List.Perm.trans ?_ List.perm_middle.symm
        exact List.Perm.cons _ (List.Perm.append_left _ List.perm_middle.symm)
      refine A1.perm ?_
      rw [List.append_assoc, List.cons_append]
/-- a slot is forgotten -/
theorem AbsS.drop (h : AbsS K cl env σ r tab H) (x : Option V) : AbsS K cl (env.set i none) (σ.set i x) r tab H := by
  obtain ⟨p, s, A⟩ := h
  cases q : env[i]? with
  | none =>
    have hl : env.length ≤ i := List.getElem?_eq_none_iff.mp q
    rw [List.set_eq_of_length_le hl, List.set_eq_of_length_le (by rw [← s.length]; exact hl)]
    exact ⟨p, s, A⟩
  | some o =>
    cases o with
    | none =>
      obtain ⟨x0, P, B, h1, rfl, _, _, h4⟩ := s.at_none q
      have e0 : env.set i none = env := by
        apply List.ext_getElem?
        intro j
        by_cases hj : i = j
        · subst hj
          rw [List.getElem?_set_self (List.getElem?_eq_some_iff.mp q).1, q]
        · rw [List.getElem?_set_ne hj]
      rw [e0]
      exact ⟨_, h4 x, A⟩
    | some e0 =>
      obtain ⟨v0, P, B, h1, rfl, _, _, _, h5⟩ := s.at_some q
      refine ⟨_, h5 x, A.sublist ?_⟩
      rw [List.append_assoc, List.append_assoc]
      exact List.Sublist.append (List.Sublist.refl _) (List.sublist_cons_self _ _)
theorem AbsS.drop' (h : AbsS K cl env σ r tab H) : AbsS K cl (env.set i none) σ r tab H := by
  by_cases hi : i < σ.length
  · have := h.drop (i := i) (σ[i]?).join
    have e0 : σ.set i (σ[i]?).join = σ := by
      apply List.ext_getElem?
      intro j
      by_cases hj : i = j
      · subst hj
        rw [List.getElem?_set_self hi, List.getElem?_eq_getElem hi]
        rfl
      · rw [List.getElem?_set_ne hj]
    rw [e0] at this
    exact this
  · rw [List.set_eq_of_length_le (by rw [h.len]; omega)]
    exact h
theorem AbsS.wipe (h : AbsS K cl env σ r tab H) : ∀ own : List Nat, AbsS K cl (wipeE env own) (L2.wipe σ own) r tab H
  | [] => h
  | i :: own => (h.wipe own).drop none
/-- behind a comprehension the slots are as they were ahead of it -/
theorem AbsS.unwipe (own : List Nat) : ∀ {env : Env}, AbsS K cl env (L2.wipe σ own) r tab H → (∀ i ∈ own, env[i]? = some none ∨ env[i]? = none) → AbsS K cl env σ r tab H := by
  induction own generalizing σ with
  | nil => intro env h _; exact h
  | cons i own ih =>
    intro env h hn
    have e1 : L2.wipe σ (i :: own) = (L2.wipe σ own).set i none := rfl
    rw [e1] at h
    refine ih ?_ fun j hj => hn j (List.mem_cons_of_mem _ hj)
    obtain ⟨p, s, A⟩ := h
    rcases hn i List.mem_cons_self with q | q
    · obtain ⟨x, P, B, h1, rfl, _, _, h4⟩ := s.at_none q
      have := h4 ((L2.wipe σ own)[i]?).join
      rw [List.set_set] at this
      have e0 : (L2.wipe σ own).set i ((L2.wipe σ own)[i]?).join = L2.wipe σ own := by
        apply List.ext_getElem?
        intro j
        by_cases hj : i = j
        · subst hj
          by_cases hl : i < (L2.wipe σ own).length
          · rw [List.getElem?_set_self hl, List.getElem?_eq_getElem hl]
            rfl
          · rw [List.set_eq_of_length_le (by omega)]
        · rw [List.getElem?_set_ne hj]
      rw [e0] at this
      exact ⟨_, this, A⟩
    · have hl : env.length ≤ i := List.getElem?_eq_none_iff.mp q
      have hs := s.length
      rw [List.length_set] at hs
      rw [List.set_eq_of_length_le (by rw [← hs]; exact hl)] at s
      exact ⟨p, s, A⟩
/-- what a slot holds stands in the heap -/
theorem AbsS.mem (s : SlotR env σ r') (he : env[i]? = some (some e)) (hv : σ[i]? = some (some v)) : (e, v) ∈ r' := by
  obtain ⟨v0, P, B, h1, rfl, _⟩ := s.at_some he
  rw [hv] at h1
  cases h1
  simp
end
end SH

end
section
set_option Elab.async false
set_option linter.all false
set_option maxRecDepth 100000
set_option maxHeartbeats 1000000
namespace SH
open PySem PySem.Spec L2 PyProof.Rows

/-! ### what a term's answer asks -/
section
variable (X : Cx) (cl : Str → Addr) (W : WX)
def PostR {α : Type} (σ : L2.St) (r : Rt) (res : R α) (P : α → S → Prop) : Prop := match res with
  | .ok a s => P a s
  | .ex x s => ∀ C H', X.mg x = some (.ref C) → AbsS X.K cl s.env σ r s.tab H' → W (.ref C) none σ H'
  | .st => False
def LEf (f : S → R Ev) : TE := fun σ H Q => ∃ env tab r, AbsS X.K cl env σ r tab H ∧ PostR X cl W σ r (f ⟨env, tab⟩) fun e s => ∀ v H', AbsS X.K cl s.env σ ((e, v) :: r) s.tab H' → Q v H'
def LTf (f : S → R Bool) : TT := fun σ H Q => ∃ env tab r, AbsS X.K cl env σ r tab H ∧ PostR X cl W σ r (f ⟨env, tab⟩) fun b s => ∀ H', AbsS X.K cl s.env σ r s.tab H' → Q b H'
def bR (b : Bo) (v : V) : Rt := match b with
  | .sl _ => []
  | .ev e => [(e, v)]
def bV (b : Bo) (v : V) (σ : L2.St) : Prop := match b with
  | .sl i => σ[i]? = some (some v)
  | .ev _ => True
def LBf (f : S → R Bo) : TE := fun σ H Q => ∃ env tab r, AbsS X.K cl env σ r tab H ∧ PostR X cl W σ r (f ⟨env, tab⟩) fun b s => ∀ v H', AbsS X.K cl s.env σ (bR b v ++ r) s.tab H' → bV b v σ → Q v H'
end
section
variable {X : Cx} {cl : Str → Addr} {W : WX} {σ : L2.St} {r r' : Rt} {α β : Type} {H : Hp}
theorem PostR.bind {res : R α} {f : α → S → R β} {P : β → S → Prop} (h : PostR X cl W σ r (res.bind f) P) : PostR X cl W σ r res fun a s => PostR X cl W σ r (f a s) P := by
  cases res <;> exact h
theorem PostR.mono {res : R α} {P P' : α → S → Prop} (h : PostR X cl W σ r res P) (hp : ∀ a s, P a s → P' a s) : PostR X cl W σ r res P' := by
  cases res with
  | ok a s => exact hp a s h
  | ex x s => exact h
  | st => exact h
theorem PostR.roots {res : R α} {P : α → S → Prop} (h : PostR X cl W σ r res P) (hs : r.Sublist r') : PostR X cl W σ r' res P := by
  cases res with
  | ok a s => exact h
  | ex x s => exact fun C H' hC A => h C H' hC (A.sublist hs)
  | st => exact h
theorem PostR.ofO {o : Option α} {s : S} {P : α → S → Prop} (h : PostR X cl W σ r (R.ofO o s) P) : ∃ a, o = some a ∧ P a s := by
  cases o with
  | none => exact h.elim
  | some a => exact ⟨a, rfl, h⟩
end
theorem _root_.L2.PE.imp {X : Cx} {a : Expr} {t t' : TE} (h : PE X a t) (k : ∀ σ H Q, t' σ H Q → t σ H Q) : PE X a t' := ⟨fun pins s σ H Q I q => h.run pins s σ H Q I (k σ H Q q)⟩
theorem _root_.L2.PT.imp {X : Cx} {a : Expr} {t t' : TT} (h : PT X a t) (k : ∀ σ H Q, t' σ H Q → t σ H Q) : PT X a t' := ⟨fun pins s σ H Q I q => h.run pins s σ H Q I (k σ H Q q)⟩
theorem _root_.L2.PA.imp {X : Cx} {a : List Expr} {t t' : TA} (h : PA X a t) (k : ∀ σ H Q, t' σ H Q → t σ H Q) : PA X a t' := ⟨fun pos pins s σ H Q I q => h.run pos pins s σ H Q I (k σ H Q q)⟩
theorem _root_.L2.PI.imp {X : Cx} {tg a : Expr} {t t' : TI} (h : PI X tg a t) (k : ∀ σ H R, t' σ H R → t σ H R) : PI X tg a t' := ⟨fun pins s σ H R I q => h.run pins s σ H R I (k σ H R q)⟩

/-! ### a def's promise -/
def spOf (K : PySem.W.Frag) (mg : Str → Option Value) (cl : Str → Addr) (c : CallT) (f : Str) : Sp := fun vs H Q E => ∃ ds r tab, ds.length = vs.length ∧ Abs K cl ((ds.map Ev.d).zip vs ++ r) tab H ∧
  (match c f ds tab with
    | .ok e tab => ∀ v H', Abs K cl ((e, v) :: r) tab H' → Q v H'
    | .ex x tab => ∀ C H', mg x = some (.ref C) → Abs K cl r tab H' → E (.ref C) none H'
    | .st => False)
/-- a context that our terms may stand in -/
structure Gd (G : Gs) (cl : Str → Addr) (kt : Kt) (lv : Nat) (N : List Str) (X : Cx) (sc tsc : Scope) : Prop where
  hN : X.N = N
  nd : N.Nodup
  hsc : X.env.scope = sc
  calm : X.calm = true
  room : Room lv X.A
  tgt : ∀ x, loc tsc x = true → Loc X.env.scope x ∧ (X.fn x = true ∨ X.env.scope.names.lookup x = some .local)
  bt : ∀ x, G.bt.contains x = true → X.mg x = none
  con : ∀ x d, kt.con x = some d → ∃ u v, X.mg x = some u ∧ RelV v u ∧ ∀ Z al, Rp X.K Z al d v
  fns : ∀ f n, (f, n) ∈ G.fns → ∃ fa fd ps, ps.length = n ∧ X.mg f = some (.ref fa) ∧ PySem.W.keepIn X.K (.ref fa) = true ∧ Binds X.K fd ps [] ∧ FnOk X.prog X.w X.K X.mg X.base (L2.CX X.prog X.w) lv fa fd ps (spOf X.K X.mg cl kt.call f)

section
variable {sc : Scope} {x : Str} {X : Cx}
theorem vis_ok (h : vis sc x = true) : Vis sc x := by
  unfold vis at h
  split at h
  · rename_i e; exact .inl e
  · rename_i e; exact .inr (.inl e)
  · rename_i e; exact .inr (.inr e)
  · cases h
theorem gl_ok (e : X.env.scope = sc) (h : gl sc x = true) : Gl X x := by
  unfold gl at h
  split at h
  · rename_i q
    show X.env.scope.names.lookup x = _
    rw [e]; exact q
  · cases h
theorem okN_ok (h : okN x = true) : (x == ("__debug__" : Str)) = false ∧ (x == ("__classdict__" : Str)) = false ∧ x ≠ "__name__" := by
  unfold okN at h
  simp only [Bool.and_eq_true, Bool.not_eq_true'] at h
  refine ⟨h.1.1, h.1.2, fun e => ?_⟩
  rw [e] at h
  exact absurd h.2 (by decide)
theorem star_cons {e : Expr} {es : List Expr} {env : PySem.Env} (h : noStar e = true) : starEach (e :: es) env = (false, PySem.eval e env) :: starEach es env := by
  cases e <;> first | rfl | cases h
theorem mEs_star {G : Gs} {N : List Str} : ∀ {es : Exs} {as : List Expr} {pos : Pos} {env : PySem.Env}, mEs G N sc es as = true → (backTo pos (starEach as env)).any (·.1) = false
  | .nil, as, _, _, h => by
    simp only [mEs, List.isEmpty_iff] at h
    subst h
    rfl
  | .cons e r, as, pos, env, h => by
    simp only [mEs] at h
    split at h
    · rename_i a as
      simp only [Bool.and_eq_true] at h
      rw [star_cons h.1.1]
      have ih := mEs_star (pos := pos) (env := env) h.2
      show (backTo pos ((false, PySem.eval a env) :: starEach as env)).any (·.1) = false
      unfold backTo at ih ⊢
      simpa using ih
    · cases h
theorem mark_ok {op : CmpOp} {e : Expr} (h : noSet e = true) : behindInMarks op e = false := by
  cases e <;> first | rfl | cases h
theorem plainIx_ok {e : Expr} (h : noSl e = true) : PlainIx e := by
  cases e <;> first | exact fun _ _ => rfl | cases h
end

/-! ### from what is in hand to the rules -/
section
variable {X : Cx} {cl : Str → Addr} {W : WX} {kt : Kt} {σ : L2.St} {r p t : Rt} {tab : List Ob} {H H' : Hp} {env : Env} {e x y : Ev} {v u w : V} {b b1 b2 : Bo} {s : S}
theorem fin_root (s : SlotR env σ p) (A : Abs X.K cl ((e, u) :: (p ++ (t ++ r))) tab H') : AbsS X.K cl env σ ((e, u) :: r) tab H' := by
  refine ⟨p, s, ?_⟩
  have A1 : Abs X.K cl (p ++ (e, u) :: (t ++ r)) tab H' := A.perm List.perm_middle
  exact A1.sublist (List.Sublist.append (List.Sublist.refl p) (List.Sublist.cons_cons _ (List.sublist_append_right t r)))
theorem bo_mem (s' : SlotR s.env σ p) (hb : bV b v σ) (h : rsv s b = some e) (hr : ∀ q ∈ bR b v, q ∈ p ++ t) : (e, v) ∈ p ++ t := by
  cases b with
  | sl i => exact List.mem_append_left _ (AbsS.mem s' (slot_get h) hb)
  | ev e' =>
    cases h
    exact hr _ (by simp [bR])
theorem bR_sub : r.Sublist (bR b v ++ r) := List.sublist_append_right _ _
theorem pe_lb {a : Expr} {ex : Ex} {f : S → R Ev} (h : PE X a (LEf X cl W f)) (hv : ∀ i, ex = .var i → ∃ x pos, a = .Name x pos ∧ X.N[i]? = some x ∧ Vis X.env.scope x ∧ (x == ("__debug__" : Str)) = false ∧ (x == ("__classdict__" : Str)) = false) :
    PE X a (LBf X cl W (bo ex f)) := by
  have gen : (∀ s, bo ex f s = (f s).bind fun x s => .ok (.ev x) s) → PE X a (LBf X cl W (bo ex f)) := fun hb => by
    refine h.imp fun σ H Q ⟨env, tab, r, A, q⟩ => ⟨env, tab, r, A, ?_⟩
    rw [hb] at q
    exact q.bind.mono fun e s q v H' A' => q v H' A' True.intro
  cases ex with
  | var i =>
    obtain ⟨x, pos, rfl, hN, hV, hd, hc⟩ := hv i rfl
    refine (pe_var hN hV hd hc).imp fun σ H Q ⟨env, tab, r, A, q⟩ => ?_
    simp only [bo] at q
    split at q
    · rename_i e he
      obtain ⟨p, s, A'⟩ := id A
      obtain ⟨v, _, _, h1, _⟩ := s.at_some (slot_get he)
      exact ⟨v, h1, q v H A h1⟩
    · exact q.elim
  | _ => exact gen fun _ => rfl
end
end SH

end
section
set_option Elab.async false
set_option linter.all false
set_option maxRecDepth 100000
set_option maxHeartbeats 1000000
namespace SH
open PySem PySem.Spec L2 PyProof.Rows

section
variable {X : Cx} {cl : Str → Addr} {W : WX} {kt : Kt} {σ : L2.St} {r p t R0 : Rt} {tab : List Ob} {H H' : Hp} {env : Env} {e x y : Ev} {v u w : V} {b b1 b2 : Bo} {s : S}
theorem fin_rootS (s : SlotR env σ p) (h : r.Sublist R0) (A : Abs X.K cl ((e, u) :: (p ++ R0)) tab H') : AbsS X.K cl env σ ((e, u) :: r) tab H' :=
  ⟨p, s, (A.perm List.perm_middle).sublist (List.Sublist.append (List.Sublist.refl p) (List.Sublist.cons_cons _ h))⟩
theorem AbsS.bl_ {K : PySem.W.Frag} {c : Bool} (h : AbsS K cl env σ ((.d (.bl c), v) :: r) tab H) : v = .bl c := by
  obtain ⟨p, s, Z, al, A⟩ := h
  exact A.bl_ (by simp)
theorem AbsS.int_ {K : PySem.W.Frag} {c : Int} (h : AbsS K cl env σ ((.d (.int c), v) :: r) tab H) : v = .int c := by
  obtain ⟨p, s, Z, al, A⟩ := h
  exact A.int_ (by simp)
theorem AbsS.non_ {K : PySem.W.Frag} (h : AbsS K cl env σ ((.d .non, v) :: r) tab H) : v = .non := by
  obtain ⟨p, s, Z, al, A⟩ := h
  exact A.non_ (by simp)
theorem AbsS.addBl {K : PySem.W.Frag} (h : AbsS K cl env σ r tab H) (c : Bool) : AbsS K cl env σ ((.d (.bl c), .bl c) :: r) tab H := h.addD fun Z al => .bl c
theorem AbsS.addInt {K : PySem.W.Frag} (h : AbsS K cl env σ r tab H) (c : Int) : AbsS K cl env σ ((.d (.int c), .int c) :: r) tab H := h.addD fun Z al => .int c
theorem toBl_eq {c : Bool} (h : toBl e = some c) : e = .d (.bl c) := by
  unfold toBl at h
  split at h
  · cases h; rfl
  · cases h
def tsf (f : S → R Ev) (s : S) : R Bool := (f s).bind fun x s => .ofO (toBl x) s
/-- a test by its value -/
theorem pt_of {a : Expr} {f : S → R Ev} (h : PE X a (LEf X cl W f)) (hp : plainT a = true) : PT X a (LTf X cl W (tsf f)) := by
  refine (pt_val h (fun whole => ?_)).imp fun σ H Q ⟨env, tab, r, A, q⟩ => ⟨env, tab, r, A, ?_⟩
  · cases a with
    | UnaryOp op x p => cases op <;> first | rfl | cases hp
    | BoolOp _ _ _ => cases hp
    | IfExp _ _ _ _ => cases hp
    | Compare _ _ _ _ => cases hp
    | _ => rfl
  · refine q.bind.mono fun x s q v H' A' => ?_
    obtain ⟨c, hc, q⟩ := q.ofO
    have e := toBl_eq hc
    subst e
    exact ⟨c, A'.bl_, q H' A'.tail⟩
theorem bR_mem_r {q : Ev × V} (h : q ∈ bR b v) : q ∈ p ++ (bR b v ++ r) := by
  simp [h]
theorem bR_mem_2 {q : Ev × V} (h : q ∈ bR b1 v) : q ∈ p ++ (bR b2 w ++ (bR b1 v ++ r)) := by
  simp [h]
theorem bR_sub2 : r.Sublist (bR b2 w ++ (bR b1 v ++ r)) := (bR_sub).trans bR_sub
end

section
variable {G : Gs} {cl : Str → Addr} {kt : Kt} {lv : Nat} {N : List Str} {X : Cx} {sc tsc : Scope} {W : WX}
theorem Gd.units (g : Gd G cl kt lv N X sc tsc) : X.A.units + 65 < cLine := by have := g.room.un; omega
theorem Gd.mvar (g : Gd G cl kt lv N X sc tsc) {i : Nat} {a : Expr} (h : mVar N sc i a = true) : ∃ x pos, a = .Name x pos ∧ X.N[i]? = some x ∧ Vis X.env.scope x ∧ (x == ("__debug__" : Str)) = false ∧ (x == ("__classdict__" : Str)) = false := by
  unfold mVar at h
  split at h
  · rename_i x pos
    simp only [Bool.and_eq_true, decide_eq_true_eq] at h
    obtain ⟨⟨h1, h2⟩, h3⟩ := h
    exact ⟨x, pos, rfl, by rw [g.hN]; exact h1, by rw [g.hsc]; exact vis_ok h2, (okN_ok h3).1, (okN_ok h3).2.1⟩
  · cases h
theorem Gd.var (g : Gd G cl kt lv N X sc tsc) {e : Ex} {a : Expr} (h : mE G N sc e a = true) : ∀ i, e = .var i → ∃ x pos, a = .Name x pos ∧ X.N[i]? = some x ∧ Vis X.env.scope x ∧ (x == ("__debug__" : Str)) = false ∧ (x == ("__classdict__" : Str)) = false := by
  intro i he
  subst he
  exact g.mvar h
/-- a built-in's name -/
theorem Gd.name (g : Gd G cl kt lv N X sc tsc) {f : Str} {e : Expr} (h : mName sc f e = true) : ∃ pos, e = .Name f pos ∧ Gl X f ∧ (f == ("__debug__" : Str)) = false ∧ f ≠ "__name__" := by
  unfold mName at h
  split at h
  · simp only [Bool.and_eq_true, decide_eq_true_eq] at h
    obtain ⟨⟨h1, h2⟩, h3⟩ := h
    subst h1
    exact ⟨_, rfl, gl_ok g.hsc h2, (okN_ok h3).1, (okN_ok h3).2.2⟩
  · cases h
end
theorem tstE (k : Kt) (c : Ex) : tst k c = tsf (eval k c) := rfl

/-- the arguments, borrowed -/
def LBsf (X : Cx) (cl : Str → Addr) (W : WX) (f : S → R (List Bo)) : TA := fun σ H Q => ∃ env tab r, AbsS X.K cl env σ r tab H ∧ PostR X cl W σ r (f ⟨env, tab⟩) fun bs s => ∀ vs H', (∃ t, AbsS X.K cl s.env σ (t ++ r) s.tab H' ∧ Paired (fun b v => (∀ q ∈ bR b v, q ∈ t) ∧ bV b v σ) bs vs) → Q vs H'
def LEsf (X : Cx) (cl : Str → Addr) (W : WX) (f : S → R (List D)) : TA := fun σ H Q => ∃ env tab r, AbsS X.K cl env σ r tab H ∧ PostR X cl W σ r (f ⟨env, tab⟩) fun ds s => ∀ vs H', ds.length = vs.length → AbsS X.K cl s.env σ ((ds.map Ev.d).zip vs ++ r) s.tab H' → Q vs H'
def srcV (σ : L2.St) (q : Ev × Option Nat) (t : Ev × V) : Prop := t.1 = q.1 ∧ ∀ i, q.2 = some i → σ[i]? = some (some t.2)
def LIf (X : Cx) (cl : Str → Addr) (W : WX) (f : S → R Src) : TI := fun σ H Rr => ∃ env tab r, AbsS X.K cl env σ r tab H ∧ PostR X cl W σ r (f ⟨env, tab⟩) fun w s => ∀ J r0 H', AbsS X.K cl s.env σ (r0 ++ r) s.tab H' → WalkD X.K cl J r0 w.its → Paired (srcV σ) w.src r0 → Rr J H'
end SH

end
section
set_option Elab.async false
set_option linter.all false
set_option maxRecDepth 100000
set_option maxHeartbeats 1000000
namespace SH
open PySem PySem.Spec L2 PyProof.Rows
section
variable {G : Gs} {N : List Str} {sc : Scope} {a b c e : Ex} {es : Exs} {x : Expr}
theorem band {p q : Bool} (h : (p && q) = true) : p = true ∧ q = true := Bool.and_eq_true_iff.mp h
theorem iv_op {o : Bop} (h : mE G N sc (.op o a b) x = true) : ∃ a' b' p, x = .BinOp a' (opOf o) b' p ∧ mE G N sc a a' = true ∧ mE G N sc b b' = true := by
  cases x with
  | BinOp a' o' b' p =>
    obtain ⟨h1, h3⟩ := band (show (decide (opOf o = o') && mE G N sc a a' && mE G N sc b b') = true from h)
    obtain ⟨h1, h2⟩ := band h1
    exact ⟨a', b', p, by rw [of_decide_eq_true h1], h2, h3⟩
  | _ => exact absurd h Bool.false_ne_true
theorem iv_non (h : mE G N sc .non x = true) : ∃ j p, x = .Constant .none j p := by
  cases x with
  | Constant c j p =>
    cases c with
    | none => exact ⟨_, _, rfl⟩
    | _ => exact absurd h Bool.false_ne_true
  | _ => exact absurd h Bool.false_ne_true
theorem iv_bl {b : Bool} (h : mE G N sc (.bl b) x = true) : ∃ j p, x = .Constant (.bool b) j p := by
  cases x with
  | Constant c j p =>
    cases c with
    | bool c => exact ⟨_, _, by rw [of_decide_eq_true (show decide (b = c) = true from h)]⟩
    | _ => exact absurd h Bool.false_ne_true
  | _ => exact absurd h Bool.false_ne_true
theorem iv_int {b : Int} (h : mE G N sc (.int b) x = true) : ∃ j p, x = .Constant (.int b) j p := by
  cases x with
  | Constant c j p =>
    cases c with
    | int c => exact ⟨_, _, by rw [of_decide_eq_true (show decide (b = c) = true from h)]⟩
    | _ => exact absurd h Bool.false_ne_true
  | _ => exact absurd h Bool.false_ne_true
theorem iv_str {b : Str} (h : mE G N sc (.str b) x = true) : ∃ j p, x = .Constant (.str b) j p := by
  cases x with
  | Constant c j p =>
    cases c with
    | str c => exact ⟨_, _, by rw [of_decide_eq_true (show decide (b = c) = true from h)]⟩
    | _ => exact absurd h Bool.false_ne_true
  | _ => exact absurd h Bool.false_ne_true
theorem iv_neg (h : mE G N sc (.neg a) x = true) : ∃ a' p, x = .UnaryOp .USub a' p ∧ mE G N sc a a' = true := by
  cases x with
  | UnaryOp o a' p =>
    cases o with
    | USub => exact ⟨a', p, rfl, h⟩
    | _ => exact absurd h Bool.false_ne_true
  | _ => exact absurd h Bool.false_ne_true
theorem iv_not (h : mE G N sc (.not_ a) x = true) : ∃ a' p, x = .UnaryOp .Not a' p ∧ mE G N sc a a' = true := by
  cases x with
  | UnaryOp o a' p =>
    cases o with
    | Not => exact ⟨a', p, rfl, h⟩
    | _ => exact absurd h Bool.false_ne_true
  | _ => exact absurd h Bool.false_ne_true
theorem iv_cmp {o : Cop} (h : mE G N sc (.cmp o a b) x = true) : ∃ a' b' p, x = .Compare a' [copOf o] [b'] p ∧ noSet b' = true ∧ mE G N sc a a' = true ∧ mE G N sc b b' = true := by
  cases x with
  | Compare a' os bs p =>
    match os, bs, h with
    | [o'], [b'], h =>
      obtain ⟨h1, h4⟩ := band (show (decide (copOf o = o') && noSet b' && mE G N sc a a' && mE G N sc b b') = true from h)
      obtain ⟨h1, h3⟩ := band h1
      obtain ⟨h1, h2⟩ := band h1
      exact ⟨a', b', p, by rw [of_decide_eq_true h1], h2, h3, h4⟩
    | [], _, h => exact absurd h Bool.false_ne_true
    | [_], [], h => exact absurd h Bool.false_ne_true
    | [_], _ :: _ :: _, h => exact absurd h Bool.false_ne_true
    | _ :: _ :: _, _, h => exact absurd h Bool.false_ne_true
  | _ => exact absurd h Bool.false_ne_true
theorem iv_chain {o1 o2 : Cop} (h : mE G N sc (.chain o1 o2 a b c) x = true) : ∃ a' b' c' p, x = .Compare a' [copOf o1, copOf o2] [b', c'] p ∧ noSet b' = true ∧ noSet c' = true ∧ mE G N sc a a' = true ∧ mE G N sc b b' = true ∧ mE G N sc c c' = true := by
  cases x with
  | Compare a' os bs p =>
    match os, bs, h with
    | [o1', o2'], [b', c'], h =>
      obtain ⟨h1, h7⟩ := band (show (decide (copOf o1 = o1') && decide (copOf o2 = o2') && noSet b' && noSet c' && mE G N sc a a' && mE G N sc b b' && mE G N sc c c') = true from h)
      obtain ⟨h1, h6⟩ := band h1
      obtain ⟨h1, h5⟩ := band h1
      obtain ⟨h1, h4⟩ := band h1
      obtain ⟨h1, h3⟩ := band h1
      obtain ⟨h1, h2⟩ := band h1
      exact ⟨a', b', c', p, by rw [of_decide_eq_true h1, of_decide_eq_true h2], h3, h4, h5, h6, h7⟩
    | [], _, h => exact absurd h Bool.false_ne_true
    | [_], _, h => exact absurd h Bool.false_ne_true
    | _ :: _ :: _ :: _, _, h => exact absurd h Bool.false_ne_true
    | [_, _], [], h => exact absurd h Bool.false_ne_true
    | [_, _], [_], h => exact absurd h Bool.false_ne_true
    | [_, _], _ :: _ :: _ :: _, h => exact absurd h Bool.false_ne_true
  | _ => exact absurd h Bool.false_ne_true
theorem iv_isN {n : Bool} (h : mE G N sc (.isN n a) x = true) : ∃ a' j p p', x = .Compare a' [if n then .IsNot else .Is] [.Constant .none j p] p' ∧ mE G N sc a a' = true := by
  cases x with
  | Compare a' os bs p =>
    match os, bs, h with
    | [o'], [.Constant .none j p2], h =>
      obtain ⟨h1, h2⟩ := band (show (decide (o' = if n then .IsNot else .Is) && mE G N sc a a') = true from h)
      exact ⟨a', j, p2, p, by rw [of_decide_eq_true h1], h2⟩
    | [], _, h => exact absurd h Bool.false_ne_true
    | [_], [], h => exact absurd h Bool.false_ne_true
    | [_], b :: _ :: _, h =>
      have : (match (Expr.Compare a' [_] (b :: _ :: _) p : Expr) with
        | .Compare a' [o'] [.Constant .none _ _] _ => decide (o' = if n then .IsNot else .Is) && mE G N sc a a'
        | _ => false) = true := h
      simp at this
    | _ :: _ :: _, _, h => exact absurd h Bool.false_ne_true
    | [o'], [b], h =>
      have hh : (match (Expr.Compare a' [o'] [b] p : Expr) with
        | .Compare a' [o'] [.Constant .none _ _] _ => decide (o' = if n then .IsNot else .Is) && mE G N sc a a'
        | _ => false) = true := h
      split at hh
      · rename_i e
        cases e
        obtain ⟨h1, h2⟩ := band hh
        exact ⟨_, _, _, _, by rw [of_decide_eq_true h1], h2⟩
      · cases hh
  | _ => exact absurd h Bool.false_ne_true
theorem iv_ite (h : mE G N sc (.ite_ c a b) x = true) : ∃ c' a' b' p, x = .IfExp c' a' b' p ∧ mE G N sc c c' = true ∧ mE G N sc a a' = true ∧ mE G N sc b b' = true := by
  cases x with
  | IfExp c' a' b' p =>
    obtain ⟨h1, h3⟩ := band (show (mE G N sc c c' && mE G N sc a a' && mE G N sc b b') = true from h)
    obtain ⟨h1, h2⟩ := band h1
    exact ⟨c', a', b', p, rfl, h1, h2, h3⟩
  | _ => exact absurd h Bool.false_ne_true
theorem iv_tup (h : mE G N sc (.tup es) x = true) : ∃ es' j p, x = .Tuple es' j p ∧ mEs G N sc es es' = true := by
  cases x with
  | Tuple es' j p => exact ⟨es', j, p, rfl, h⟩
  | _ => exact absurd h Bool.false_ne_true
theorem iv_lst (h : mE G N sc (.lst es) x = true) : ∃ es' p, x = .List es' p ∧ mEs G N sc es es' = true := by
  cases x with
  | List es' p => exact ⟨es', p, rfl, h⟩
  | _ => exact absurd h Bool.false_ne_true
theorem iv_ix (h : mE G N sc (.ix a b) x = true) : ∃ a' b' p, x = .Subscript a' b' p ∧ noSl b' = true ∧ mE G N sc a a' = true ∧ mE G N sc b b' = true := by
  cases x with
  | Subscript a' b' p =>
    obtain ⟨h1, h3⟩ := band (show (noSl b' && mE G N sc a a' && mE G N sc b b') = true from h)
    obtain ⟨h1, h2⟩ := band h1
    exact ⟨a', b', p, rfl, h1, h2, h3⟩
  | _ => exact absurd h Bool.false_ne_true
def mPart (G : Gs) (N : List Str) (sc : Scope) (lo : Ex) : Option Expr → Prop
  | none => isNop lo = true
  | some l => isNop lo = false ∧ mE G N sc lo l = true
theorem iv_sl {lo hi : Ex} (h : mE G N sc (.sl a lo hi) x = true) : ∃ a' lo' hi' p p', x = .Subscript a' (.Slice lo' hi' none p) p' ∧ mE G N sc a a' = true ∧ mPart G N sc lo lo' ∧ mPart G N sc hi hi' := by
  cases x with
  | Subscript a' b' p' =>
    cases b' with
    | Slice lo' hi' st p =>
      cases st with
      | none =>
        refine ⟨a', lo', hi', p, p', rfl, ?_⟩
        cases lo' with
        | none =>
          cases hi' with
          | none =>
            obtain ⟨h1, h3⟩ := band (show (mE G N sc a a' && isNop lo && isNop hi) = true from h)
            obtain ⟨h1, h2⟩ := band h1
            exact ⟨h1, h2, h3⟩
          | some l2 =>
            obtain ⟨h1, h3⟩ := band (show (mE G N sc a a' && isNop lo && (!isNop hi && mE G N sc hi l2)) = true from h)
            obtain ⟨h1, h2⟩ := band h1
            obtain ⟨q1, q2⟩ := band h3
            exact ⟨h1, h2, by simpa using q1, q2⟩
        | some l1 =>
          cases hi' with
          | none =>
            obtain ⟨h1, h3⟩ := band (show (mE G N sc a a' && (!isNop lo && mE G N sc lo l1) && isNop hi) = true from h)
            obtain ⟨h1, h2⟩ := band h1
            obtain ⟨q1, q2⟩ := band h2
            exact ⟨h1, ⟨by simpa using q1, q2⟩, h3⟩
          | some l2 =>
            obtain ⟨h1, h3⟩ := band (show (mE G N sc a a' && (!isNop lo && mE G N sc lo l1) && (!isNop hi && mE G N sc hi l2)) = true from h)
            obtain ⟨h1, h2⟩ := band h1
            obtain ⟨q1, q2⟩ := band h2
            obtain ⟨q3, q4⟩ := band h3
            exact ⟨h1, ⟨by simpa using q1, q2⟩, by simpa using q3, q4⟩
      | some _ => exact absurd h Bool.false_ne_true
    | _ => exact absurd h Bool.false_ne_true
  | _ => exact absurd h Bool.false_ne_true
theorem iv_call {f : Str} (h : mE G N sc (.call f es) x = true) : ∃ e es' p, x = .Call e es' [] p ∧ mName sc f e = true ∧ (f, es.len) ∈ G.fns ∧ mEs G N sc es es' = true := by
  cases x with
  | Call e es' kw p =>
    cases kw with
    | nil =>
      obtain ⟨h1, h3⟩ := band (show (mName sc f e && decide ((f, es.len) ∈ G.fns) && mEs G N sc es es') = true from h)
      obtain ⟨h1, h2⟩ := band h1
      exact ⟨e, es', p, rfl, h1, of_decide_eq_true h2, h3⟩
    | cons _ _ => exact absurd h Bool.false_ne_true
  | _ => exact absurd h Bool.false_ne_true
theorem iv_bi {b : Bi} (h : mE G N sc (.bi b es) x = true) : ∃ e es' p, x = .Call e es' [] p ∧ mName sc (bName b) e = true ∧ G.bt.contains (bName b) = true ∧ mEs G N sc es es' = true ∧ es' ≠ [] := by
  cases x with
  | Call e es' kw p =>
    cases kw with
    | nil =>
      obtain ⟨h1, h4⟩ := band (show (mName sc (bName b) e && G.bt.contains (bName b) && mEs G N sc es es' && !es'.isEmpty) = true from h)
      obtain ⟨h1, h3⟩ := band h1
      obtain ⟨h1, h2⟩ := band h1
      exact ⟨e, es', p, rfl, h1, h2, h3, by simpa using h4⟩
    | cons _ _ => exact absurd h Bool.false_ne_true
  | _ => exact absurd h Bool.false_ne_true
theorem iv_isi {T : Ty} (h : mE G N sc (.isi a T) x = true) : ∃ e a' t' p, x = .Call e [a', t'] [] p ∧ mName sc "isinstance" e = true ∧ G.bt.contains "isinstance" = true ∧ noStar a' = true ∧ mE G N sc a a' = true ∧ noStar t' = true ∧ mName sc (tyN T) t' = true ∧ G.bt.contains (tyN T) = true := by
  have key : ∀ y, mE G N sc (.isi a T) y = (match y with
    | .Call e [a', t'] [] _ => mName sc "isinstance" e && G.bt.contains "isinstance" && noStar a' && mE G N sc a a' && noStar t' && mName sc (tyN T) t' && G.bt.contains (tyN T)
    | _ => false) := fun y => rfl
  rw [key] at h
  split at h
  · obtain ⟨h1, h7⟩ := band h
    obtain ⟨h1, h6⟩ := band h1
    obtain ⟨h1, h5⟩ := band h1
    obtain ⟨h1, h4⟩ := band h1
    obtain ⟨h1, h3⟩ := band h1
    obtain ⟨h1, h2⟩ := band h1
    exact ⟨_, _, _, _, rfl, h1, h2, h3, h4, h5, h6, h7⟩
  · cases h
theorem iv_isit {Ts : List Ty} (h : mE G N sc (.isit a Ts) x = true) : ∃ e a' ts j q p, x = .Call e [a', .Tuple ts j q] [] p ∧ mName sc "isinstance" e = true ∧ G.bt.contains "isinstance" = true ∧ noStar a' = true ∧ mE G N sc a a' = true ∧ mTys G sc Ts ts = true := by
  have key : ∀ y, mE G N sc (.isit a Ts) y = (match y with
    | .Call e [a', .Tuple ts _ _] [] _ => mName sc "isinstance" e && G.bt.contains "isinstance" && noStar a' && mE G N sc a a' && mTys G sc Ts ts
    | _ => false) := fun y => rfl
  rw [key] at h
  split at h
  · obtain ⟨h1, h5⟩ := band h
    obtain ⟨h1, h4⟩ := band h1
    obtain ⟨h1, h3⟩ := band h1
    obtain ⟨h1, h2⟩ := band h1
    exact ⟨_, _, _, _, _, _, rfl, h1, h2, h3, h4, h5⟩
  · cases h
theorem iv_and (h : mE G N sc (.and_ a b) x = true) : ∃ a' b' r p, x = .BoolOp .And (a' :: b' :: r) p ∧ mE G N sc a a' = true ∧ ((r = [] ∧ mE G N sc b b' = true) ∨ mE G N sc b (.BoolOp .And (b' :: r) p) = true) := by
  cases x with
  | BoolOp o vs p =>
    cases o with
    | And =>
      match vs, h with
      | a' :: b' :: [], h =>
        obtain ⟨h1, h2⟩ := band (show (mE G N sc a a' && mE G N sc b b') = true from h)
        exact ⟨a', b', [], p, rfl, h1, .inl ⟨rfl, h2⟩⟩
      | a' :: b' :: c' :: r, h =>
        obtain ⟨h1, h2⟩ := band (show (mE G N sc a a' && mE G N sc b (.BoolOp .And (b' :: c' :: r) p)) = true from h)
        exact ⟨a', b', _, p, rfl, h1, .inr h2⟩
      | [], h => exact absurd h Bool.false_ne_true
      | [_], h => exact absurd h Bool.false_ne_true
    | Or => exact absurd h Bool.false_ne_true
  | _ => exact absurd h Bool.false_ne_true
theorem iv_or (h : mE G N sc (.or_ a b) x = true) : ∃ a' b' r p, x = .BoolOp .Or (a' :: b' :: r) p ∧ mE G N sc a a' = true ∧ ((r = [] ∧ mE G N sc b b' = true) ∨ mE G N sc b (.BoolOp .Or (b' :: r) p) = true) := by
  cases x with
  | BoolOp o vs p =>
    cases o with
    | Or =>
      match vs, h with
      | a' :: b' :: [], h =>
        obtain ⟨h1, h2⟩ := band (show (mE G N sc a a' && mE G N sc b b') = true from h)
        exact ⟨a', b', [], p, rfl, h1, .inl ⟨rfl, h2⟩⟩
      | a' :: b' :: c' :: r, h =>
        obtain ⟨h1, h2⟩ := band (show (mE G N sc a a' && mE G N sc b (.BoolOp .Or (b' :: c' :: r) p)) = true from h)
        exact ⟨a', b', _, p, rfl, h1, .inr h2⟩
      | [], h => exact absurd h Bool.false_ne_true
      | [_], h => exact absurd h Bool.false_ne_true
    | And => exact absurd h Bool.false_ne_true
  | _ => exact absurd h Bool.false_ne_true
theorem iv_pop {i : Nat} (h : mE G N sc (.pop i a) x = true) : ∃ o ap k' p, x = .Call (.Attribute o "pop" ap) [k'] [] p ∧ mVar N sc i o = true ∧ noStar k' = true ∧ (ap.endLine == p.line) = true ∧ mE G N sc a k' = true := by
  have key : ∀ y, mE G N sc (.pop i a) y = (match y with
    | .Call (.Attribute o nm ap) [k'] [] p => decide (nm = ("pop" : Str)) && mVar N sc i o && noStar k' && (ap.endLine == p.line) && mE G N sc a k'
    | _ => false) := fun y => rfl
  rw [key] at h
  split at h
  · obtain ⟨h1, h5⟩ := band h
    obtain ⟨h1, h4⟩ := band h1
    obtain ⟨h1, h3⟩ := band h1
    obtain ⟨h1, h2⟩ := band h1
    exact ⟨_, _, _, _, by rw [of_decide_eq_true h1], h2, h3, h4, h5⟩
  · cases h
def mIfs (G : Gs) (N : List Str) (sc : Scope) (c : Ex) : List Expr → Prop
  | [] => isNop c = true
  | [c'] => isNop c = false ∧ mE G N sc c c' = true
  | _ => False
theorem iv_comp {own : List (Str × Nat)} {g : Tg} {it : Gen} (h : mE G N sc (.comp own g it c e) x = true) : ∃ e' tg iter ifs scope p, x = .ListComp e' [⟨tg, iter, ifs, 0⟩] scope p ∧ blkC N sc scope own = true ∧ tgIn (own.map (·.2)) g = true ∧ mTg N scope g tg = true ∧ mI G N sc tg it iter = true ∧ mIfs G N (relS scope sc) c ifs ∧ mE G N (relS scope sc) e e' = true := by
  cases x with
  | ListComp e' gs scope p =>
    have h : (match (Expr.ListComp e' gs scope p : Expr) with
      | .ListComp e' [⟨tg, iter, ifs, 0⟩] scope _ => blkC N sc scope own && tgIn (own.map (·.2)) g && mTg N scope g tg && mI G N sc tg it iter && (match ifs with
        | [] => isNop c
        | [c'] => !isNop c && mE G N (relS scope sc) c c'
        | _ => false) && mE G N (relS scope sc) e e'
      | _ => false) = true := h
    split at h
    · rename_i e1 tg iter ifs sc1 p1 heq
      cases heq
      obtain ⟨h1, h6⟩ := band h
      obtain ⟨h1, h5⟩ := band h1
      obtain ⟨h1, h4⟩ := band h1
      obtain ⟨h1, h3⟩ := band h1
      obtain ⟨h1, h2⟩ := band h1
      refine ⟨_, tg, iter, ifs, _, _, rfl, h1, h2, h3, h4, ?_, h6⟩
      split at h5
      · exact h5
      · obtain ⟨q1, q2⟩ := band h5
        exact ⟨by simpa using q1, q2⟩
      · cases h5
    · cases h
  | _ => exact absurd h Bool.false_ne_true
theorem iv_cons {r : Exs} {as : List Expr} (h : mEs G N sc (.cons e r) as = true) : ∃ a as', as = a :: as' ∧ noStar a = true ∧ mE G N sc e a = true ∧ mEs G N sc r as' = true := by
  cases as with
  | nil => exact absurd h Bool.false_ne_true
  | cons a as =>
    obtain ⟨h1, h3⟩ := band (show (noStar a && mE G N sc e a && mEs G N sc r as) = true from h)
    obtain ⟨h1, h2⟩ := band h1
    exact ⟨a, as, rfl, h1, h2, h3⟩
theorem iv_nil {as : List Expr} (h : mEs G N sc .nil as = true) : as = [] := by
  have h : as.isEmpty = true := h
  simpa using h
end
end SH
namespace SH
open PySem PySem.Spec L2 PyProof.Rows
section
variable {G : Gs} {N : List Str} {sc : Scope} {a b c e : Ex} {tg x : Expr}
theorem iv_enum (h : mI G N sc tg (.enum e) x = true) : ∃ f a' p, x = .Call f [a'] [] p ∧ isTup tg = true ∧ mName sc "enumerate" f = true ∧ G.bt.contains "enumerate" = true ∧ noStar a' = true ∧ mE G N sc e a' = true := by
  have key : ∀ y, mI G N sc tg (.enum e) y = (match y with
    | .Call f [a] [] _ => isTup tg && mName sc "enumerate" f && G.bt.contains "enumerate" && noStar a && mE G N sc e a
    | _ => false) := fun y => rfl
  rw [key] at h
  split at h
  · obtain ⟨h1, h5⟩ := band h
    obtain ⟨h1, h4⟩ := band h1
    obtain ⟨h1, h3⟩ := band h1
    obtain ⟨h1, h2⟩ := band h1
    exact ⟨_, _, _, rfl, h1, h2, h3, h4, h5⟩
  · cases h
theorem iv_zip (h : mI G N sc tg (.zip a b) x = true) : ∃ f a' b' p, x = .Call f [a', b'] [] p ∧ isTup tg = true ∧ mName sc "zip" f = true ∧ G.bt.contains "zip" = true ∧ noStar a' = true ∧ noStar b' = true ∧ mE G N sc a a' = true ∧ mE G N sc b b' = true := by
  have key : ∀ y, mI G N sc tg (.zip a b) y = (match y with
    | .Call f [a', b'] [] _ => isTup tg && mName sc "zip" f && G.bt.contains "zip" && noStar a' && noStar b' && mE G N sc a a' && mE G N sc b b'
    | _ => false) := fun y => rfl
  rw [key] at h
  split at h
  · obtain ⟨h1, h7⟩ := band h
    obtain ⟨h1, h6⟩ := band h1
    obtain ⟨h1, h5⟩ := band h1
    obtain ⟨h1, h4⟩ := band h1
    obtain ⟨h1, h3⟩ := band h1
    obtain ⟨h1, h2⟩ := band h1
    exact ⟨_, _, _, _, rfl, h1, h2, h3, h4, h5, h6, h7⟩
  · cases h
theorem iv_rng1 (h : mI G N sc tg (.rng1 e) x = true) : ∃ f a' p, x = .Call f [a'] [] p ∧ mName sc "range" f = true ∧ G.bt.contains "range" = true ∧ noStar a' = true ∧ mE G N sc e a' = true := by
  have key : ∀ y, mI G N sc tg (.rng1 e) y = (match y with
    | .Call f [a] [] _ => mName sc "range" f && G.bt.contains "range" && noStar a && mE G N sc e a
    | _ => false) := fun y => rfl
  rw [key] at h
  split at h
  · obtain ⟨h1, h4⟩ := band h
    obtain ⟨h1, h3⟩ := band h1
    obtain ⟨h1, h2⟩ := band h1
    exact ⟨_, _, _, rfl, h1, h2, h3, h4⟩
  · cases h
theorem iv_rng2 (h : mI G N sc tg (.rng2 a b) x = true) : ∃ f a' b' p, x = .Call f [a', b'] [] p ∧ mName sc "range" f = true ∧ G.bt.contains "range" = true ∧ noStar a' = true ∧ noStar b' = true ∧ mE G N sc a a' = true ∧ mE G N sc b b' = true := by
  have key : ∀ y, mI G N sc tg (.rng2 a b) y = (match y with
    | .Call f [a', b'] [] _ => mName sc "range" f && G.bt.contains "range" && noStar a' && noStar b' && mE G N sc a a' && mE G N sc b b'
    | _ => false) := fun y => rfl
  rw [key] at h
  split at h
  · obtain ⟨h1, h6⟩ := band h
    obtain ⟨h1, h5⟩ := band h1
    obtain ⟨h1, h4⟩ := band h1
    obtain ⟨h1, h3⟩ := band h1
    obtain ⟨h1, h2⟩ := band h1
    exact ⟨_, _, _, _, rfl, h1, h2, h3, h4, h5, h6⟩
  · cases h
end
end SH

end
section
set_option Elab.async false
set_option linter.all false
set_option maxRecDepth 100000
set_option maxHeartbeats 1000000
namespace SH
open PySem PySem.Spec L2 PyProof.Rows

/-! ### small rules -/
section
variable {X : Cx} {cl : Str → Addr} {W : WX} {kt : Kt} {σ : L2.St} {r p t R0 : Rt} {tab : List Ob} {H H' : Hp} {env : Env} {e x y : Ev} {v u w : V} {b b1 b2 : Bo} {s : S}
theorem tsf_post {f : S → R Ev} {s0 : S} {P : Bool → S → Prop} (h : PostR X cl W σ r (f s0) fun x s => ∃ c, toBl x = some c ∧ P c s) : PostR X cl W σ r (tsf f s0) P := by
  unfold tsf
  cases hf : f s0 with
  | ok x s =>
    rw [hf] at h
    obtain ⟨c, hc, q⟩ := h
    show PostR X cl W σ r (R.ofO (toBl x) s) P
    rw [hc]
    exact q
  | ex x s => rw [hf] at h; exact h
  | st => rw [hf] at h; exact h
theorem tsf_inv {f : S → R Ev} {s0 : S} {P : Bool → S → Prop} (h : PostR X cl W σ r (tsf f s0) P) : PostR X cl W σ r (f s0) fun x s => ∃ c, toBl x = some c ∧ P c s :=
  (PostR.bind h).mono fun _ _ q => q.ofO
theorem pw_of_pt {o : BoolOp} {vs : List Expr} {pos : Pos} {t : TT} (h : PT X (.BoolOp o vs pos) t) : PW X (.BoolOp o vs pos) t := ⟨fun _ pins s σ H Q I q => h.run pins s σ H Q I q⟩
theorem rps_roots {K : PySem.W.Frag} {Z : Hp} {al : List Addr} {R1 : Rt} (A : AbsAt K cl Z al R1 tab H) : ∀ {ds : List D} {vs : List V}, ds.length = vs.length → (∀ q ∈ (ds.map Ev.d).zip vs, q ∈ R1) → Rps K Z al ds vs
  | [], [], _, _ => .nil
  | d :: ds, v :: vs, h, hm => .cons (A.rp (hm _ (by simp))) (rps_roots A (by simpa using h) fun q hq => hm q (by rw [List.map_cons, List.zip_cons_cons]; exact List.mem_cons_of_mem _ hq))
  | [], _ :: _, h, _ => by simp at h
  | _ :: _, [], h, _ => by simp at h
theorem non_iff {K : PySem.W.Frag} (A : AbsS K cl env σ ((e, v) :: r) tab H) : decide (v = .non) = isNon e := by
  obtain ⟨p, s, Z, al, A⟩ := A
  have q := A.roots (e, v) (by simp)
  cases q with
  | d q => cases q <;> simp [isNon]
  | o _ _ => simp [isNon]
  | od _ _ _ => simp [isNon]
end
section
variable {X : Cx} {CX : CXT} {k : Nat} {f : Addr} {fd : FuncData} {ps : List Str} {sp : Sp} {E : L2.St → XK} {x : Str} {p pos : Pos}
theorem pe_callS0 (F : FnOk X.prog X.w X.K X.mg X.base CX k f fd ps sp) (hr : Room k X.A) (hg : Gl X x) (hm : X.mg x = some (.ref f)) (hk : PySem.W.keepIn X.K (.ref f) = true) (hb : Binds X.K fd ps []) (hx : ∀ σ, PassesAt CX X σ (E σ))
    (hdb : (x == ("__debug__" : Str)) = false) : PE X (.Call (.Name x p) [] [] pos) (tCallS sp E tNil) := by
  refine ⟨fun pins s σ H Q I h => ?_⟩
  refine wpAny_Call_Name_kw (ld_glob I hg hm ?_ hdb)
  exact PySem.W.callWith_K0 I.kIn hk (run_fnS (us := []) F hr hb (hx σ) I .nil h)
end
/-- a built-in is called -/
theorem pe_bi {X : Cx} {b : Bi} {a : Expr} {as : List Expr} {t : TA} {p pos : Pos} (hc : X.calm = true) (hg : Gl X (bName b)) (hm : X.mg (bName b) = none) (hn : bName b ≠ "__name__") (hdb : (bName b == ("__debug__" : Str)) = false) (ha : PA X (a :: as) t)
    (he : starEach (a :: as) X.env = (false, PySem.eval a X.env) :: starEach as X.env) (hpl : (backTo pos (starEach as X.env)).any (·.1) = false) : PE X (.Call (.Name (bName b) p) (a :: as) [] pos) (tCB (rBi X b) t) := by
  have rule := bi_rule (X := X) hc b
  cases b
  case tuple => exact pe_callTy rule hg hm (by decide +kernel) ha hn hdb he hpl
  case list => exact pe_callTy rule hg hm (by decide +kernel) ha hn hdb he hpl
  case int => exact pe_callTy rule hg hm (by decide +kernel) ha hn hdb he hpl
  case str => exact pe_callTy rule hg hm (by decide +kernel) ha hn hdb he hpl
  all_goals exact pe_callB rule hg hm (by decide +kernel) ha hn hdb he hpl

/-! ### comprehensions: the turns -/
section
variable {X : Cx} {cl : Str → Addr} {W : WX} {K : PySem.W.Frag} {σ : L2.St} {r r0 : Rt} {tab : List Ob} {H : Hp} {env : Env} {own : List Nat}
theorem wipe_set {σ : L2.St} {i : Nat} {x : Option V} : ∀ {own : List Nat}, i ∈ own → wipe (σ.set i x) own = wipe σ own
  | [], h => absurd h (by simp)
  | j :: own, h => by
    show (wipe (σ.set i x) own).set j none = (wipe σ own).set j none
    by_cases hj : i ∈ own
    · rw [wipe_set hj]
    · rcases List.mem_cons.mp h with e | h
      · subst e
        have : ∀ (l : List Nat), i ∉ l → wipe (σ.set i x) l = (wipe σ l).set i x := by
          intro l
          induction l with
          | nil => intro _; rfl
          | cons k l ih =>
            intro hk
            show (wipe (σ.set i x) l).set k none = ((wipe σ l).set k none).set i x
            rw [ih fun z => hk (List.mem_cons_of_mem _ z), List.set_comm _ _ (fun z => hk (by rw [z]; exact List.mem_cons_self))]
        rw [this own hj, List.set_set]
      · exact absurd h hj
theorem wipe_wipe (σ : L2.St) : ∀ own : List Nat, wipe (wipe σ own) own = wipe σ own := by
  intro own
  apply List.ext_getElem?
  intro i
  have len1 := wipe_length σ own
  have len2 := wipe_length (wipe σ own) own
  have key : ∀ (τ : L2.St) (l : List Nat) (i : Nat), i ∈ l → i < τ.length → (wipe τ l)[i]? = some none := by
    intro τ l
    induction l with
    | nil => intro i h; cases h
    | cons k l ih =>
      intro i h hi
      show ((wipe τ l).set k none)[i]? = some none
      by_cases hk : k = i
      · subst hk
        rw [List.getElem?_set_self (by rw [wipe_length]; exact hi)]
      · rw [List.getElem?_set_ne hk]
        rcases List.mem_cons.mp h with e | h
        · exact absurd e.symm hk
        · exact ih i h hi
  have key2 : ∀ (τ : L2.St) (l : List Nat) (i : Nat), i ∉ l → (wipe τ l)[i]? = τ[i]? := by
    intro τ l
    induction l with
    | nil => intro i _; rfl
    | cons k l ih =>
      intro i h
      show ((wipe τ l).set k none)[i]? = τ[i]?
      rw [List.getElem?_set_ne fun z => h (by rw [z]; exact List.mem_cons_self)]
      exact ih i fun z => h (List.mem_cons_of_mem _ z)
  by_cases hi : i ∈ own
  · by_cases hl : i < σ.length
    · rw [key _ _ _ hi (by rw [len1]; exact hl), key _ _ _ hi hl]
    · rw [List.getElem?_eq_none (by omega), List.getElem?_eq_none (by omega)]
  · rw [key2 _ _ _ hi]
theorem wipeE_length (env : Env) : ∀ own : List Nat, (wipeE env own).length = env.length
  | [] => rfl
  | i :: own => by
    show ((wipeE env own).set i none).length = _
    rw [List.length_set, wipeE_length env own]
theorem wipeE_none {env : Env} : ∀ {own : List Nat} {i : Nat}, i ∈ own → (wipeE env own)[i]? = some none ∨ (wipeE env own)[i]? = none
  | [], i, h => absurd h (by simp)
  | j :: own, i, h => by
    show ((wipeE env own).set j none)[i]? = some none ∨ ((wipeE env own).set j none)[i]? = none
    by_cases hj : j = i
    · subst hj
      by_cases hl : j < (wipeE env own).length
      · rw [List.getElem?_set_self hl]; exact .inl rfl
      · rw [List.getElem?_eq_none (by rw [List.length_set]; omega)]; exact .inr rfl
    · rw [List.getElem?_set_ne hj]
      rcases List.mem_cons.mp h with e | h
      · exact absurd e.symm hj
      · exact wipeE_none h
end

/-! ### targets -/
section
variable {G : Gs} {cl : Str → Addr} {kt : Kt} {lv : Nat} {N : List Str} {X : Cx} {sc tsc : Scope}
/-- what a target asks: the value's data is bound -/
def LGf (X : Cx) (cl : Str → Addr) (own : Nat → Prop) (f : D → Env → Option Env) : TG := fun v σ H Q => ∃ d env env' tab r, AbsS X.K cl env σ ((.d d, v) :: r) tab H ∧ f d env = some env' ∧
  ∀ σ' H', AbsS X.K cl env' σ' r tab H' → H' = H → (∀ l : List Nat, (∀ i, own i → i ∈ l) → wipe σ' l = wipe σ l) → Q σ' H'
def LGsf (X : Cx) (cl : Str → Addr) (own : Nat → Prop) (f : List D → Env → Option Env) : TGs := fun vs σ H Q => ∃ ds env env' tab r, ds.length = vs.length ∧ AbsS X.K cl env σ ((ds.map Ev.d).zip vs ++ r) tab H ∧ f ds env = some env' ∧
  ∀ σ' H', AbsS X.K cl env' σ' r tab H' → H' = H → (∀ l : List Nat, (∀ i, own i → i ∈ l) → wipe σ' l = wipe σ l) → Q σ' H'
theorem _root_.L2.PG.imp {X : Cx} {a : Expr} {t t' : TG} (h : PG X a t) (k : ∀ v σ H Q, t' v σ H Q → t v σ H Q) : PG X a t' := ⟨fun pins s σ H v u Q I r q => h.run pins s σ H v u Q I r (k v σ H Q q)⟩
theorem _root_.L2.PGs.imp {X : Cx} {a : List Expr} {t t' : TGs} (h : PGs X a t) (k : ∀ v σ H Q, t' v σ H Q → t v σ H Q) : PGs X a t' := ⟨fun pins s σ H v u Q I r q => h.run pins s σ H v u Q I r (k v σ H Q q)⟩
mutual
def ownT : Tg → Nat → Prop
  | .name i => fun j => j = i
  | .tup gs => ownTs gs
def ownTs : Tgs → Nat → Prop
  | .nil => fun _ => False
  | .cons g r => fun j => ownT g j ∨ ownTs r j
end
theorem asg_star {e : Expr} {es : List Expr} {env : PySem.Env} (h : noStar e = true) : assignEach (e :: es) env = (false, assign e env) :: assignEach es env := by
  cases e <;> first | rfl | cases h
theorem mTgs_star {N : List Str} {tsc : Scope} : ∀ {gs : Tgs} {es : List Expr} {env : PySem.Env}, mTgs N tsc gs es = true → (assignEach es env).length = es.length ∧ (assignEach es env).findIdx? (·.1) = none
  | .nil, [], _, _ => ⟨rfl, rfl⟩
  | .cons g r, e :: es, env, h => by
    obtain ⟨h1, h3⟩ := band (show (noStar e && mTg N tsc g e && mTgs N tsc r es) = true from h)
    obtain ⟨h1, h2⟩ := band h1
    obtain ⟨q1, q2⟩ := mTgs_star (env := env) h3
    rw [asg_star h1]
    refine ⟨by simp [q1], ?_⟩
    rw [List.findIdx?_cons]
    simp [q2]
  | .nil, _ :: _, _, h => absurd h Bool.false_ne_true
  | .cons _ _, [], _, h => absurd h Bool.false_ne_true
theorem bindGs_len : ∀ {gs : Tgs} {xs : List D} {env env' : Env} {es : List Expr} {N : List Str} {tsc : Scope}, bindGs gs xs env = some env' → mTgs N tsc gs es = true → xs.length = es.length
  | .nil, [], _, _, [], _, _, _, _ => rfl
  | .cons g r, x :: xs, env, env', e :: es, N, tsc, h, hm => by
    obtain ⟨h1, h3⟩ := band (show (noStar e && mTg N tsc g e && mTgs N tsc r es) = true from hm)
    have h : (bindG g x env).bind (fun env => bindGs r xs env) = some env' := h
    cases hb : bindG g x env with
    | none => rw [hb] at h; cases h
    | some e1 =>
      rw [hb] at h
      have := bindGs_len (es := es) h h3
      simp [this]
  | .nil, [], _, _, _ :: _, _, _, _, h => absurd h Bool.false_ne_true
  | .nil, _ :: _, _, _, _, _, _, h, _ => by cases h
  | .cons _ _, [], _, _, _, _, _, h, _ => by cases h
  | .cons _ _, _ :: _, _, _, [], _, _, _, h => absurd h Bool.false_ne_true
mutual
theorem sG (g : Gd G cl kt lv N X sc tsc) : ∀ (tg : Tg) {a : Expr}, mTg N tsc tg a = true → PG X a (LGf X cl (ownT tg) (bindG tg))
  | .name i, a, h => by
    cases a with
    | Name x p =>
      obtain ⟨h1, h2⟩ := band (show (decide (N[i]? = some x) && loc tsc x) = true from h)
      obtain ⟨l1, l2⟩ := g.tgt x h2
      refine (pg_name (i := i) (by rw [g.hN]; exact g.nd) (by rw [g.hN]; exact of_decide_eq_true h1) l1 l2).imp fun v σ H Q ⟨d, env, env', tab, r, A, hb, q⟩ => ?_
      have hb : (if i < env.length then some (env.set i (some (.d d))) else none) = some env' := hb
      split at hb
      · rename_i hi
        cases hb
        exact q _ _ (A.store hi) rfl fun l hl => wipe_set (hl i rfl)
      · cases hb
    | _ => exact absurd h Bool.false_ne_true
  | .tup gs, a, h => by
    cases a with
    | Tuple es j p =>
      have hm : mTgs N tsc gs es = true := h
      obtain ⟨s1, s2⟩ := mTgs_star (env := X.env) hm
      refine (pg_tup g.calm (sGs g gs hm) s1 s2).imp fun v σ H Q ⟨d, env, env', tab, r, A, hb, q⟩ => ?_
      cases d with
      | tup xs =>
        have hb : bindGs gs xs env = some env' := hb
        obtain ⟨pp, sl, Z, al, AA⟩ := id A
        obtain ⟨a, vs, rfl, ha, ra, _⟩ := AA.tup_ (by simp : (Ev.d (.tup xs), v) ∈ pp ++ (Ev.d (.tup xs), v) :: r)
        refine ⟨a, vs, rfl, ha, by rw [← ra.length]; exact bindGs_len hb hm, xs, env, env', tab, r, ra.length, ?_, hb, q⟩
        obtain ⟨p2, s2, A2⟩ := A.tail
        refine ⟨pp, sl, ?_⟩
        -- the items are roots of their own
        have add : ∀ (ds : List D) (us : List V) (R1 : Rt), Rps X.K Z al ds us → AbsAt X.K cl Z al R1 tab H → AbsAt X.K cl Z al ((ds.map Ev.d).zip us ++ R1) tab H := by
          intro ds
          induction ds with
          | nil => intro us R1 hr A; cases hr; exact A
          | cons d ds ih =>
            intro us R1 hr A
            cases hr with
            | cons h1 h2 => exact (ih _ R1 h2 A).addD h1
        have A3 := add xs vs (pp ++ r) ra (AA.sublist (List.Sublist.append (List.Sublist.refl pp) (List.sublist_cons_self _ _)))
        refine ⟨Z, al, A3.perm ?_⟩
        rw [← List.append_assoc, ← List.append_assoc]
        exact List.Perm.append_right _ List.perm_append_comm
      | _ => cases hb
    | _ => exact absurd h Bool.false_ne_true
theorem sGs (g : Gd G cl kt lv N X sc tsc) : ∀ (gs : Tgs) {as : List Expr}, mTgs N tsc gs as = true → PGs X as (LGsf X cl (ownTs gs) (bindGs gs))
  | .nil, [], _ => pgs_nil.imp fun vs σ H Q ⟨ds, env, env', tab, r, hl, A, hb, q⟩ => by
    cases ds with
    | nil =>
      cases hb
      cases vs with
      | nil => exact ⟨rfl, q _ _ A rfl fun _ _ => rfl⟩
      | cons _ _ => simp at hl
    | cons _ _ => cases hb
  | .cons t ts, e :: es, h => by
    obtain ⟨h1, h3⟩ := band (show (noStar e && mTg N tsc t e && mTgs N tsc ts es) = true from h)
    obtain ⟨h1, h2⟩ := band h1
    refine (pgs_cons (sG g t h2) (sGs g ts h3) (by rw [asg_star h1]; rfl)).imp fun vs σ H Q ⟨ds, env, env', tab, r, hl, A, hb, q⟩ => ?_
    cases ds with
    | nil => cases hb
    | cons d ds =>
      cases vs with
      | nil => simp at hl
      | cons v vs =>
        have hb : (bindG t d env).bind (fun env => bindGs ts ds env) = some env' := hb
        cases h1 : bindG t d env with
        | none => rw [h1] at hb; cases hb
        | some env1 =>
          rw [h1] at hb
          refine ⟨v, vs, rfl, d, env, env1, tab, (ds.map Ev.d).zip vs ++ r, A, h1, fun σ1 H1 A1 e1 w1 => ?_⟩
          subst e1
          refine ⟨ds, env1, env', tab, r, by simpa using hl, A1, hb, fun σ2 H2 A2 e2 w2 => ?_⟩
          exact q σ2 H2 A2 e2 fun l hl => (w2 l fun i hi => hl i (.inr hi)).trans (w1 l fun i hi => hl i (.inl hi))
  | .nil, _ :: _, h => absurd h Bool.false_ne_true
  | .cons _ _, [], h => absurd h Bool.false_ne_true
end
mutual
theorem tgIn_own {own : List Nat} : ∀ {t : Tg}, tgIn own t = true → ∀ i, ownT t i → i ∈ own
  | .name i, h, j, e => by
    have e : j = i := e
    subst e
    exact List.contains_iff_mem.mp h
  | .tup gs, h, j, e => tgsIn_own (t := gs) h j e
theorem tgsIn_own {own : List Nat} : ∀ {t : Tgs}, tgsIn own t = true → ∀ i, ownTs t i → i ∈ own
  | .nil, _, _, e => False.elim e
  | .cons g r, h, j, e => by
    obtain ⟨h1, h2⟩ := band (show (tgIn own g && tgsIn own r) = true from h)
    rcases (show ownT g j ∨ ownTs r j from e) with e | e
    · exact tgIn_own h1 j e
    · exact tgsIn_own h2 j e
end
end
end SH

end
section
set_option Elab.async false
set_option linter.all false
set_option maxRecDepth 100000
set_option maxHeartbeats 4000000
namespace SH
open PySem PySem.Spec L2 PyProof.Rows

section
variable {G : Gs} {cl : Str → Addr} {kt : Kt} {lv : Nat} {N : List Str} {X : Cx} {sc tsc : Scope} {W : WX} {a b c : Ex} {x x' x'' : Expr}
/-- in a comprehension's block -/
theorem lookup_relS {scope sc : Scope} {x : Str} {k : NameKind} (hk : k ≠ .free) : ∀ {names : List (Str × NameKind)}, names.lookup x = some k → (names.map fun (n, k) => if (k == .free && sc.kind == .function && sc.names.lookup n == some .cell) then (n, .cell) else (n, k)).lookup x = some k
  | [], h => by cases h
  | (n, j) :: r, h => by
    rw [List.lookup_cons] at h
    cases hx : x == n with
    | true =>
      rw [hx] at h
      cases h
      have hf : (k == NameKind.free) = false := by cases k <;> first | rfl | exact absurd rfl hk
      show List.lookup x ((if (k == .free && sc.kind == .function && sc.names.lookup n == some .cell) = true then (n, .cell) else (n, k)) :: _) = _
      rw [hf, Bool.false_and, Bool.false_and, if_neg (by decide), List.lookup_cons, hx]
    | false =>
      rw [hx] at h
      have ih := lookup_relS (scope := scope) (sc := sc) hk h
      show List.lookup x ((if (j == .free && sc.kind == .function && sc.names.lookup n == some .cell) = true then (n, .cell) else (n, j)) :: _) = _
      split <;> (rw [List.lookup_cons, hx]; exact ih)
theorem Gd.blk (g : Gd G cl kt lv N X sc tsc) (s : Shared) (H : Hp) (scope : Scope) (C : Addr) (cells : List (Str × Addr)) (fp : List Addr) : Gd G cl kt lv N (X.blk s H scope (compEnvC scope cells C X.env) fp) (relS scope sc) scope where
  hN := g.hN
  nd := g.nd
  hsc := by
    show relabel scope X.env = relS scope sc
    rw [← g.hsc]
    rfl
  calm := g.calm
  room := g.room
  tgt := fun x h => by
    unfold loc at h
    split at h
    · rename_i e
      have q : (relS scope X.env.scope).names.lookup x = some .local := lookup_relS (scope := scope) (by decide) e
      exact ⟨.inl q, .inr q⟩
    · rename_i e
      have q : (relS scope X.env.scope).names.lookup x = some .cell := lookup_relS (scope := scope) (by decide) e
      exact ⟨.inr q, .inl (show (scope.names.lookup x == some .cell) = true by rw [e]; rfl)⟩
    · cases h
  bt := g.bt
  con := g.con
  fns := g.fns

/-! ### one construct each -/
theorem e_op {o : Bop} (g : Gd G cl kt lv N X sc tsc) (ha : PE X x (LBf X cl W (bo a (eval kt a)))) (hb : PE X x' (LBf X cl W (bo b (eval kt b)))) {p : Pos} : PE X (.BinOp x (opOf o) x' p) (LEf X cl W (eval kt (.op o a b))) := by
  refine (pe_op (op_bin o) ha hb).imp fun σ H Q ⟨env, tab, r, A, q⟩ => ?_
  rw [eval_op] at q
  refine ⟨env, tab, r, A, q.bind.mono fun x s q v H1 A1 v1 => ?_⟩
  refine ⟨s.env, s.tab, _, A1, (q.bind.roots bR_sub).mono fun y s q w H2 A2 v2 => ?_⟩
  obtain ⟨p, sp, Z, al, AA⟩ := A2
  split at q
  · rename_i e1 e2 h1 h2
    obtain ⟨e, he, q⟩ := q.ofO
    exact bin_ok AA o (bo_mem sp v1 h1 fun q hq => bR_mem_2 hq) (bo_mem sp v2 h2 fun q hq => bR_mem_r hq) he fun u H' A' => q u H' (fin_rootS sp bR_sub2 A')
  · exact q.elim
theorem e_cmp {o : Cop} (g : Gd G cl kt lv N X sc tsc) (ha : PE X x (LBf X cl W (bo a (eval kt a)))) (hb : PE X x' (LBf X cl W (bo b (eval kt b)))) (hm : noSet x' = true) {p : Pos} : PE X (.Compare x [copOf o] [x'] p) (LEf X cl W (eval kt (.cmp o a b))) := by
  refine (pe_cmpR (op_cmp g.units o) ha hb (mark_ok hm)).imp fun σ H Q ⟨env, tab, r, A, q⟩ => ?_
  rw [eval_cmp] at q
  refine ⟨env, tab, r, A, q.bind.mono fun x s q v H1 A1 v1 => ?_⟩
  refine ⟨s.env, s.tab, _, A1, (q.bind.roots bR_sub).mono fun y s q w H2 A2 v2 => ?_⟩
  obtain ⟨p, sp, Z, al, AA⟩ := id A2
  split at q
  · rename_i e1 e2 h1 h2
    obtain ⟨e, he, q⟩ := q.ofO
    cases hc : cmpD o e1 e2 s.tab with
    | none => rw [hc] at he; cases he
    | some c =>
      rw [hc] at he
      cases he
      exact cmp_ok AA o (bo_mem sp v1 h1 fun q hq => bR_mem_2 hq) (bo_mem sp v2 h2 fun q hq => bR_mem_r hq) hc (q _ H2 ((A2.sublist bR_sub2).addBl c))
  · exact q.elim
theorem t_cmp {o : Cop} (g : Gd G cl kt lv N X sc tsc) (ha : PE X x (LBf X cl W (bo a (eval kt a)))) (hb : PE X x' (LBf X cl W (bo b (eval kt b)))) (hm : noSet x' = true) {p : Pos} : PT X (.Compare x [copOf o] [x'] p) (LTf X cl W (tsf (eval kt (.cmp o a b)))) := by
  refine (pt_cmpR (op_cmp g.units o) ha hb (mark_ok hm)).imp fun σ H Q ⟨env, tab, r, A, q⟩ => ?_
  have q := tsf_inv q
  rw [eval_cmp] at q
  refine ⟨env, tab, r, A, q.bind.mono fun x s q v H1 A1 v1 => ?_⟩
  refine ⟨s.env, s.tab, _, A1, (q.bind.roots bR_sub).mono fun y s q w H2 A2 v2 => ?_⟩
  obtain ⟨p, sp, Z, al, AA⟩ := id A2
  split at q
  · rename_i e1 e2 h1 h2
    obtain ⟨e, he, c', hc', q⟩ := q.ofO
    cases hc : cmpD o e1 e2 s.tab with
    | none => rw [hc] at he; cases he
    | some c =>
      rw [hc] at he
      cases he
      cases hc'
      exact cmp_ok AA o (bo_mem sp v1 h1 fun q hq => bR_mem_2 hq) (bo_mem sp v2 h2 fun q hq => bR_mem_r hq) hc ⟨_, rfl, q H2 (A2.sublist bR_sub2)⟩
  · exact q.elim
theorem marks_ok {op op' : CmpOp} {b c : Expr} (h1 : noSet b = true) (h2 : noSet c = true) : lastMarks [op, op'] [b, c] = false := by
  have e2 := mark_ok (op := op') h2
  with_unfolding_all exact e2
/-- what a chain gives, by its end -/
theorem chain_core {o1 o2 : Cop} (g : Gd G cl kt lv N X sc tsc) {σ : L2.St} {H : Hp} {env : Env} {tab : List Ob} {r : Rt} {P : Bool → S → Prop} {Q : VK} {ta tb tc : TE}
    (ta_eq : ta = LBf X cl W (bo a (eval kt a))) (tb_eq : tb = LEf X cl W (eval kt b)) (tc_eq : tc = LBf X cl W (bo c (eval kt c))) (A : AbsS X.K cl env σ r tab H)
    (q : PostR X cl W σ r (eval kt (.chain o1 o2 a b c) ⟨env, tab⟩) fun e s => ∃ d, e = .d (.bl d) ∧ P d s) (fin : ∀ d s H', P d s → AbsS X.K cl s.env σ r s.tab H' → Q (.bl d) H') : tChain (rCmp X o1) (rCmp X o2) ta tb tc σ H Q := by
  subst ta_eq tb_eq tc_eq
  rw [eval_chain] at q
  refine ⟨env, tab, r, A, q.bind.mono fun x s q v H1 A1 v1 => ?_⟩
  refine ⟨s.env, s.tab, _, A1, (q.bind.roots bR_sub).mono fun y s q w H2 A2 => ?_⟩
  obtain ⟨p, sp, Z, al, AA⟩ := id A2
  split at q
  · rename_i e1 d h1
    have m1 : (e1, v) ∈ p ++ ((Ev.d d, w) :: (bR x v ++ r)) := bo_mem sp v1 h1 fun q hq => by simp [hq]
    have m2 : (Ev.d d, w) ∈ p ++ ((Ev.d d, w) :: (bR x v ++ r)) := by simp
    split at q
    · rename_i hc
      refine cmp_ok AA o1 m1 m2 hc ⟨true, rfl, ?_⟩
      refine iteT ?_
      refine ⟨s.env, s.tab, _, A2, (q.bind.roots (r' := (Ev.d d, w) :: (bR x v ++ r)) (bR_sub.trans (List.sublist_cons_self _ _))).mono fun z s q u H3 A3 v3 => ?_⟩
      obtain ⟨p3, sp3, Z3, al3, AA3⟩ := id A3
      split at q
      · rename_i e3 h3
        obtain ⟨e, he, dd, e4, q⟩ := q.ofO
        subst e4
        cases hc2 : cmpD o2 (.d d) e3 s.tab with
        | none => rw [hc2] at he; cases he
        | some c2 =>
          rw [hc2] at he
          cases he
          exact cmp_ok AA3 o2 (by simp : (Ev.d d, w) ∈ p3 ++ (bR z u ++ ((Ev.d d, w) :: (bR x v ++ r)))) (bo_mem sp3 v3 h3 fun q hq => bR_mem_r hq) hc2 (fin _ _ _ q (A3.sublist (((bR_sub.trans (List.sublist_cons_self _ _))).trans bR_sub)))
      · exact q.elim
    · rename_i hc
      obtain ⟨dd, e4, q⟩ := (q : ∃ dd, Ev.d (.bl false) = .d (.bl dd) ∧ P dd s)
      cases e4
      refine cmp_ok AA o1 m1 m2 hc ⟨false, rfl, ?_⟩
      refine iteF ?_
      exact fin _ _ _ q (A2.sublist (bR_sub.trans (List.sublist_cons_self _ _)))
    · exact q.elim
  · exact q.elim
theorem chain_bl {e : Ev} {s s0 : S} {o1 o2 : Cop} {a b c : Ex} (h : eval kt (.chain o1 o2 a b c) s0 = .ok e s) : ∃ d, e = .d (.bl d) := by
  rw [eval_chain] at h
  cases h1 : bo a (eval kt a) s0 with
  | ok x s1 =>
    rw [h1, R.bind_ok] at h
    cases h2 : eval kt b s1 with
    | ok y s2 =>
      rw [h2, R.bind_ok] at h
      split at h
      · split at h
        · cases h3 : bo c (eval kt c) s2 with
          | ok z s3 =>
            rw [h3, R.bind_ok] at h
            split at h
            · rename_i d _ _ _ _ e3 _
              cases h4 : cmpD o2 (.d d) e3 s3.tab with
              | none => rw [h4] at h; cases h
              | some c2 => rw [h4] at h; cases h; exact ⟨_, rfl⟩
            · cases h
          | ex _ _ => rw [h3] at h; cases h
          | st => rw [h3] at h; cases h
        · cases h; exact ⟨_, rfl⟩
        · cases h
      · cases h
    | ex _ _ => rw [h2] at h; cases h
    | st => rw [h2] at h; cases h
  | ex _ _ => rw [h1] at h; cases h
  | st => rw [h1] at h; cases h
theorem e_chain {o1 o2 : Cop} (g : Gd G cl kt lv N X sc tsc) (ha : PE X x (LBf X cl W (bo a (eval kt a)))) (hb : PE X x' (LEf X cl W (eval kt b))) (hc : PE X x'' (LBf X cl W (bo c (eval kt c)))) (h1 : noSet x' = true) (h2 : noSet x'' = true) {p : Pos} :
    PE X (.Compare x [copOf o1, copOf o2] [x', x''] p) (LEf X cl W (eval kt (.chain o1 o2 a b c))) := by
  refine (pe_chain (op_cmp g.units o1) (op_cmp g.units o2) ha hb hc (marks_ok h1 h2)).imp fun σ H Q ⟨env, tab, r, A, q⟩ => ?_
  refine chain_core (P := fun d s => ∀ v H', AbsS X.K cl s.env σ ((.d (.bl d), v) :: r) s.tab H' → Q v H') g rfl rfl rfl A ?_ fun d s H' q A' => q _ _ (A'.addBl d)
  have key : ∀ (res : R Ev), (∀ e s, res = .ok e s → ∃ d, e = .d (.bl d)) → PostR X cl W σ r res (fun e s => ∀ v H', AbsS X.K cl s.env σ ((e, v) :: r) s.tab H' → Q v H') →
      PostR X cl W σ r res fun e s => ∃ d, e = .d (.bl d) ∧ ∀ v H', AbsS X.K cl s.env σ ((.d (.bl d), v) :: r) s.tab H' → Q v H' := fun res hk q => by
    cases res with
    | ok e s =>
      obtain ⟨d, rfl⟩ := hk e s rfl
      exact ⟨d, rfl, q⟩
    | ex x s => exact q
    | st => exact q
  exact key _ (fun e s h => chain_bl h) q
theorem t_chain {o1 o2 : Cop} (g : Gd G cl kt lv N X sc tsc) (ha : PE X x (LBf X cl W (bo a (eval kt a)))) (hb : PE X x' (LEf X cl W (eval kt b))) (hc : PE X x'' (LBf X cl W (bo c (eval kt c)))) (h1 : noSet x' = true) (h2 : noSet x'' = true) {p : Pos} :
    PT X (.Compare x [copOf o1, copOf o2] [x', x''] p) (LTf X cl W (tsf (eval kt (.chain o1 o2 a b c)))) := by
  refine (pt_chain (op_cmp g.units o1) (op_cmp g.units o2) ha hb hc (marks_ok h1 h2)).imp fun σ H Q ⟨env, tab, r, A, q⟩ => ?_
  refine chain_core (P := fun d s => ∀ H', AbsS X.K cl s.env σ r s.tab H' → Q d H') g rfl rfl rfl A ((tsf_inv q).mono fun e s ⟨d, hd, q⟩ => ⟨d, toBl_eq hd, q⟩) fun d s H' q A' => ⟨d, rfl, q _ A'⟩
theorem e_isN {n : Bool} (ha : PE X x (LEf X cl W (eval kt a))) {j : Nat} {p p' : Pos} : PE X (.Compare x [if n then .IsNot else .Is] [.Constant .none j p] p') (LEf X cl W (eval kt (.isN n a))) := by
  have key : ∀ σ H Q, LEf X cl W (eval kt (.isN n a)) σ H Q → LEf X cl W (eval kt a) σ H fun v H1 => Q (.bl (if n then !decide (v = .non) else decide (v = .non))) H1 := fun σ H Q ⟨env, tab, r, A, q⟩ => by
    rw [eval_isN] at q
    refine ⟨env, tab, r, A, q.bind.mono fun x s q v H1 A1 => ?_⟩
    dsimp only
    rw [non_iff A1]
    exact q _ H1 (A1.tail.addBl _)
  cases n with
  | false => exact (pe_cmp (pc_isN ha)).imp fun σ H Q h => key σ H Q h
  | true => exact (pe_cmp (pc_notN ha)).imp fun σ H Q h => key σ H Q h
theorem t_isN {n : Bool} (ha : PE X x (LEf X cl W (eval kt a))) {j : Nat} {p p' : Pos} : PT X (.Compare x [if n then .IsNot else .Is] [.Constant .none j p] p') (LTf X cl W (tsf (eval kt (.isN n a)))) := by
  have key : ∀ σ H Q, LTf X cl W (tsf (eval kt (.isN n a))) σ H Q → LEf X cl W (eval kt a) σ H fun v H1 => Q (if n then !decide (v = .non) else decide (v = .non)) H1 := fun σ H Q ⟨env, tab, r, A, q⟩ => by
    have q := tsf_inv q
    rw [eval_isN] at q
    refine ⟨env, tab, r, A, q.bind.mono fun x s q v H1 A1 => ?_⟩
    dsimp only
    rw [non_iff A1]
    obtain ⟨d, e, q⟩ := q
    cases e
    exact q H1 A1.tail
  cases n with
  | false =>
    refine (pt_cmp (pc_isN ha)).imp fun σ H Q h => ?_
    obtain ⟨env, tab, r, A, q⟩ := key σ H Q h
    exact ⟨env, tab, r, A, q.mono fun e s q v H' A' => ⟨_, rfl, q v H' A'⟩⟩
  | true =>
    refine (pt_cmp (pc_notN ha)).imp fun σ H Q h => ?_
    obtain ⟨env, tab, r, A, q⟩ := key σ H Q h
    exact ⟨env, tab, r, A, q.mono fun e s q v H' A' => ⟨_, rfl, q v H' A'⟩⟩
theorem e_and {r : List Expr} {p : Pos} (ha : PE X x (LEf X cl W (eval kt a))) (hb : PE X (.BoolOp .And (x' :: r) p) (LEf X cl W (eval kt b))) : PE X (.BoolOp .And (x :: x' :: r) p) (LEf X cl W (eval kt (.and_ a b))) := by
  refine (pe_and ha hb).imp fun σ H Q ⟨env, tab, r, A, q⟩ => ?_
  rw [eval_and] at q
  refine ⟨env, tab, r, A, q.bind.mono fun x s q v H1 A1 => ?_⟩
  split at q
  · rename_i h
    have e := toBl_eq h
    subst e
    refine ⟨true, A1.bl_, ?_⟩
    refine iteT ?_
    refine ⟨s.env, s.tab, r, A1.tail, q.bind.mono fun y s q w H2 A2 => ?_⟩
    split at q
    · rename_i c h
      have e := toBl_eq h
      subst e
      exact q w H2 A2
    · exact q.elim
  · rename_i h
    have e := toBl_eq h
    subst e
    refine ⟨false, A1.bl_, ?_⟩
    refine iteF ?_
    exact q _ H1 (A1.tail.addBl false)
  · exact q.elim
theorem t_and {r : List Expr} {p : Pos} (ha : PT X x (LTf X cl W (tsf (eval kt a)))) (hb : PW X (.BoolOp .And (x' :: r) p) (LTf X cl W (tsf (eval kt b)))) : PW X (.BoolOp .And (x :: x' :: r) p) (LTf X cl W (tsf (eval kt (.and_ a b)))) := by
  have h := pw_and ha hb
  refine pw_of_pt (h.pt.imp fun σ H Q ⟨env, tab, r, A, q⟩ => ?_)
  have q := tsf_inv q
  rw [eval_and] at q
  refine ⟨env, tab, r, A, tsf_post (q.bind.mono fun x s q => ?_)⟩
  split at q
  · rename_i h
    refine ⟨true, h, fun H1 A1 => ?_⟩
    refine iteT ?_
    refine ⟨s.env, s.tab, r, A1, tsf_post (q.bind.mono fun y s q => ?_)⟩
    split at q
    · rename_i c h
      obtain ⟨d, e, q⟩ := q
      cases e
      exact ⟨_, h, q⟩
    · exact q.elim
  · rename_i h
    refine ⟨false, h, fun H1 A1 => ?_⟩
    refine iteF ?_
    obtain ⟨d, e, q⟩ := q
    cases e
    exact q H1 A1
  · exact q.elim
theorem e_or {r : List Expr} {p : Pos} (ha : PE X x (LEf X cl W (eval kt a))) (hb : PE X (.BoolOp .Or (x' :: r) p) (LEf X cl W (eval kt b))) : PE X (.BoolOp .Or (x :: x' :: r) p) (LEf X cl W (eval kt (.or_ a b))) := by
  refine (pe_or ha hb).imp fun σ H Q ⟨env, tab, r, A, q⟩ => ?_
  rw [eval_or] at q
  refine ⟨env, tab, r, A, q.bind.mono fun x s q v H1 A1 => ?_⟩
  split at q
  · rename_i h
    have e := toBl_eq h
    subst e
    refine ⟨false, A1.bl_, ?_⟩
    refine iteF ?_
    refine ⟨s.env, s.tab, r, A1.tail, q.bind.mono fun y s q w H2 A2 => ?_⟩
    split at q
    · rename_i c h
      have e := toBl_eq h
      subst e
      exact q w H2 A2
    · exact q.elim
  · rename_i h
    have e := toBl_eq h
    subst e
    refine ⟨true, A1.bl_, ?_⟩
    refine iteT ?_
    exact q _ H1 (A1.tail.addBl true)
  · exact q.elim
theorem t_or {r : List Expr} {p : Pos} (ha : PT X x (LTf X cl W (tsf (eval kt a)))) (hb : PW X (.BoolOp .Or (x' :: r) p) (LTf X cl W (tsf (eval kt b)))) : PW X (.BoolOp .Or (x :: x' :: r) p) (LTf X cl W (tsf (eval kt (.or_ a b)))) := by
  have h := pw_or ha hb
  refine pw_of_pt (h.pt.imp fun σ H Q ⟨env, tab, r, A, q⟩ => ?_)
  have q := tsf_inv q
  rw [eval_or] at q
  refine ⟨env, tab, r, A, tsf_post (q.bind.mono fun x s q => ?_)⟩
  split at q
  · rename_i h
    refine ⟨false, h, fun H1 A1 => ?_⟩
    refine iteF ?_
    refine ⟨s.env, s.tab, r, A1, tsf_post (q.bind.mono fun y s q => ?_)⟩
    split at q
    · rename_i c h
      obtain ⟨d, e, q⟩ := q
      cases e
      exact ⟨_, h, q⟩
    · exact q.elim
  · rename_i h
    refine ⟨true, h, fun H1 A1 => ?_⟩
    refine iteT ?_
    obtain ⟨d, e, q⟩ := q
    cases e
    exact q H1 A1
  · exact q.elim
theorem e_not {p : Pos} (ha : PE X x (LEf X cl W (eval kt a))) : PE X (.UnaryOp .Not x p) (LEf X cl W (eval kt (.not_ a))) := by
  refine (pe_not ha).imp fun σ H Q ⟨env, tab, r, A, q⟩ => ?_
  rw [eval_not] at q
  refine ⟨env, tab, r, A, q.bind.mono fun x s q v H1 A1 => ?_⟩
  split at q
  · rename_i c h
    have e := toBl_eq h
    subst e
    exact ⟨c, A1.bl_, q _ H1 (A1.tail.addBl _)⟩
  · exact q.elim
theorem t_not {p : Pos} (ha : PT X x (LTf X cl W (tsf (eval kt a)))) : PT X (.UnaryOp .Not x p) (LTf X cl W (tsf (eval kt (.not_ a)))) := by
  refine (pt_not ha).imp fun σ H Q ⟨env, tab, r, A, q⟩ => ?_
  have q := tsf_inv q
  rw [eval_not] at q
  refine ⟨env, tab, r, A, tsf_post (q.bind.mono fun x s q => ?_)⟩
  split at q
  · rename_i c h
    obtain ⟨d, e, q⟩ := q
    cases e
    exact ⟨c, h, q⟩
  · exact q.elim
theorem e_ite {p : Pos} (hc : PT X x (LTf X cl W (tsf (eval kt c)))) (ha : PE X x' (LEf X cl W (eval kt a))) (hb : PE X x'' (LEf X cl W (eval kt b))) : PE X (.IfExp x x' x'' p) (LEf X cl W (eval kt (.ite_ c a b))) := by
  refine (pe_ifExp hc ha hb).imp fun σ H Q ⟨env, tab, r, A, q⟩ => ?_
  rw [eval_ite] at q
  refine ⟨env, tab, r, A, tsf_post (q.bind.mono fun x s q => ?_)⟩
  split at q
  · rename_i h
    refine ⟨true, h, fun H1 A1 => ?_⟩
    refine iteT ?_
    exact ⟨s.env, s.tab, r, A1, q⟩
  · rename_i h
    refine ⟨false, h, fun H1 A1 => ?_⟩
    refine iteF ?_
    exact ⟨s.env, s.tab, r, A1, q⟩
  · exact q.elim
theorem e_neg {p : Pos} (ha : PE X x (LEf X cl W (eval kt a))) : PE X (.UnaryOp .USub x p) (LEf X cl W (eval kt (.neg a))) := by
  refine (pe_un un_neg ha).imp fun σ H Q ⟨env, tab, r, A, q⟩ => ?_
  rw [eval_neg] at q
  refine ⟨env, tab, r, A, q.bind.mono fun x s q v H1 A1 => ?_⟩
  split at q
  · exact ⟨_, A1.int_, q _ H1 (A1.tail.addInt _)⟩
  · exact q.elim
theorem e_tup {es : Exs} {as : List Expr} {j : Nat} {p : Pos} (h : PA X as (LEsf X cl W (evals kt es))) : PE X (.Tuple as j p) (LEf X cl W (eval kt (.tup es))) := by
  refine (pe_tup h).imp fun σ H Q ⟨env, tab, r, A, q⟩ => ?_
  rw [eval_tup] at q
  refine ⟨env, tab, r, A, q.bind.mono fun ds s q vs H1 hl A1 => ?_⟩
  split at q
  · rename_i hle
    refine ⟨by rw [← lim_eq, ← hl]; exact hle, fun pa hp => q _ _ ?_⟩
    obtain ⟨pp, sl, Z, al, AA⟩ := A1
    have rp := rps_roots AA hl fun q hq => by simp [hq]
    refine ⟨pp, sl, ?_⟩
    exact ((AA.newTup hp rp).abs.perm List.perm_middle).sublist (List.Sublist.append (List.Sublist.refl pp) (List.Sublist.cons_cons _ (List.sublist_append_right _ _)))
  · exact q.elim
theorem e_lst {es : Exs} {as : List Expr} {p : Pos} (h : PA X as (LEsf X cl W (evals kt es))) : PE X (.List as p) (LEf X cl W (eval kt (.lst es))) := by
  refine (pe_lst h).imp fun σ H Q ⟨env, tab, r, A, q⟩ => ?_
  rw [eval_lst] at q
  refine ⟨env, tab, r, A, q.bind.mono fun ds s q vs H1 hl A1 => ?_⟩
  split at q
  · rename_i hle
    refine ⟨by rw [← lim_eq, ← hl]; exact hle, fun pa hp => q _ _ ?_⟩
    obtain ⟨pp, sl, Z, al, AA⟩ := A1
    have rp := rps_roots AA hl fun q hq => by simp [hq]
    refine ⟨pp, sl, ?_⟩
    exact ((AA.newLst hp rp).abs.perm List.perm_middle).sublist (List.Sublist.append (List.Sublist.refl pp) (List.Sublist.cons_cons _ (List.sublist_append_right _ _)))
  · exact q.elim
theorem e_ix {p : Pos} (ha : PE X x (LBf X cl W (bo a (eval kt a)))) (hb : PE X x' (LBf X cl W (bo b (eval kt b)))) (hs : noSl x' = true) : PE X (.Subscript x x' p) (LEf X cl W (eval kt (.ix a b))) := by
  refine (pe_ix ix_seq ha hb (plainIx_ok hs)).imp fun σ H Q ⟨env, tab, r, A, q⟩ => ?_
  rw [eval_ix] at q
  refine ⟨env, tab, r, A, q.bind.mono fun x s q v H1 A1 v1 => ?_⟩
  refine ⟨s.env, s.tab, _, A1, (q.bind.roots bR_sub).mono fun y s q w H2 A2 v2 => ?_⟩
  obtain ⟨p, sp, Z, al, AA⟩ := A2
  split at q
  · rename_i e1 e2 h1 h2
    obtain ⟨e, he, q⟩ := q.ofO
    exact ix_ok AA (bo_mem sp v1 h1 fun q hq => bR_mem_2 hq) (bo_mem sp v2 h2 fun q hq => bR_mem_r hq) he fun u H' A' => q u H' (fin_rootS sp bR_sub2 A')
  · exact q.elim
/-- a part of a slice -/
def LPf (X : Cx) (cl : Str → Addr) (W : WX) (f : S → R (Option Int)) : TO := fun σ H Q => ∃ env tab r, AbsS X.K cl env σ r tab H ∧ PostR X cl W σ r (f ⟨env, tab⟩) fun o s => ∀ H', AbsS X.K cl s.env σ r s.tab H' → Q o H'
theorem po_of {o : Option Expr} (h : mPart G N sc a o) (ih : ∀ x, mE G N sc a x = true → PE X x (LEf X cl W (eval kt a))) : PO X o (LPf X cl W (pto a (eval kt a))) := by
  cases o with
  | none =>
    have h : isNop a = true := h
    refine ⟨fun pins s σ H Q I ⟨env, tab, r, A, q⟩ => po_none.run pins s σ H Q I ?_⟩
    cases a <;> first | (cases h; done) | exact q H A
  | some x =>
    obtain ⟨h1, h2⟩ := h
    refine ⟨fun pins s σ H Q I ⟨env, tab, r, A, q⟩ => (po_some (ih x h2)).run pins s σ H Q I ?_⟩
    have e : pto a (eval kt a) ⟨env, tab⟩ = (eval kt a ⟨env, tab⟩).bind fun x s => (match x with
      | .d (.int i) => .ok (some i) s
      | _ => .st) := by cases a <;> first | rfl | cases h1
    rw [e] at q
    refine ⟨env, tab, r, A, q.bind.mono fun x s q v H1 A1 => ?_⟩
    split at q
    · exact ⟨_, A1.int_, q H1 A1.tail⟩
    · exact q.elim
theorem e_sl {lo hi : Option Expr} {p p' : Pos} (ha : PE X x (LBf X cl W (bo a (eval kt a)))) (hl : PO X lo (LPf X cl W (pto b (eval kt b)))) (hh : PO X hi (LPf X cl W (pto c (eval kt c)))) : PE X (.Subscript x (.Slice lo hi none p) p') (LEf X cl W (eval kt (.sl a b c))) := by
  refine (pe_slice sl_rule ha hl hh).imp fun σ H Q ⟨env, tab, r, A, q⟩ => ?_
  rw [eval_sl] at q
  refine ⟨env, tab, r, A, q.bind.mono fun x s q v H1 A1 v1 => ?_⟩
  refine ⟨s.env, s.tab, _, A1, (q.bind.roots bR_sub).mono fun l s q H2 A2 => ?_⟩
  refine ⟨s.env, s.tab, _, A2, (q.bind.roots bR_sub).mono fun h s q H3 A3 => ?_⟩
  obtain ⟨p, sp, Z, al, AA⟩ := A3
  split at q
  · rename_i e1 h1
    obtain ⟨e, he, q⟩ := q.ofO
    exact sl_ok AA l h (bo_mem sp v1 h1 fun q hq => bR_mem_r hq) he fun u H' A' => q u H' (fin_rootS sp bR_sub A')
  · exact q.elim
theorem e_call (g : Gd G cl kt lv N X sc tsc) (tk : Takes X W) {f : Str} {es : Exs} {e : Expr} {as : List Expr} {p : Pos} (hn : mName sc f e = true) (hf : (f, es.len) ∈ G.fns) (ha : PA X as (LEsf X cl W (evals kt es))) (hs : mEs G N sc es as = true) :
    PE X (.Call e as [] p) (LEf X cl W (eval kt (.call f es))) := by
  obtain ⟨pos, rfl, hg, hdb, _⟩ := g.name hn
  obtain ⟨fa, fd, ps, hl, hm, hk, hb, F⟩ := g.fns f _ hf
  have key : ∀ σ H Q, LEf X cl W (eval kt (.call f es)) σ H Q → tCallS (spOf X.K X.mg cl kt.call f) (WE W) (LEsf X cl W (evals kt es)) σ H Q := fun σ H Q ⟨env, tab, r, A, q⟩ => by
    rw [eval_call] at q
    refine ⟨env, tab, r, A, q.bind.mono fun ds s q vs H1 hl A1 => ?_⟩
    obtain ⟨pp, sl, AA⟩ := A1
    refine ⟨ds, pp ++ r, s.tab, hl, AA.perm ?_, ?_⟩
    · rw [← List.append_assoc, ← List.append_assoc]
      exact List.Perm.append_right _ List.perm_append_comm
    · cases he : kt.call f ds s.tab with
      | ok ev tab' =>
        rw [he] at q
        exact fun v H' A' => q v H' ⟨pp, sl, A'.perm List.perm_middle⟩
      | ex xx tab' =>
        rw [he] at q
        exact fun C H' hC A' => q C H' hC ⟨pp, sl, A'⟩
      | st =>
        rw [he] at q
        exact q.elim
  cases es with
  | nil =>
    have e := iv_nil hs
    subst e
    refine (pe_callS0 F g.room hg hm hk hb (passAt tk) hdb).imp fun σ H Q h => ?_
    obtain ⟨env, tab, r, A, q⟩ := key σ H Q h
    exact q [] H rfl A
  | cons e0 r0 =>
    obtain ⟨a0, as', rfl, h1, h2, h3⟩ := iv_cons hs
    exact (pe_callS F g.room hg hm hk hb (passAt tk) ha hdb (star_cons h1) (mEs_star h3)).imp key
theorem e_bi (g : Gd G cl kt lv N X sc tsc) {b : Bi} {es : Exs} {e : Expr} {as : List Expr} {p : Pos} (hn : mName sc (bName b) e = true) (hb : G.bt.contains (bName b) = true) (ha : PA X as (LBsf X cl W (evbs kt es))) (hs : mEs G N sc es as = true) (hne : as ≠ []) :
    PE X (.Call e as [] p) (LEf X cl W (eval kt (.bi b es))) := by
  obtain ⟨pos, rfl, hg, hdb, hnn⟩ := g.name hn
  cases es with
  | nil => exact absurd (iv_nil hs) hne
  | cons e0 r0 =>
    obtain ⟨a0, as', rfl, h1, h2, h3⟩ := iv_cons hs
    refine (pe_bi g.calm hg (g.bt _ hb) hnn hdb ha (star_cons h1) (mEs_star h3)).imp fun σ H Q ⟨env, tab, r, A, q⟩ => ?_
    rw [eval_bi] at q
    refine ⟨env, tab, r, A, q.bind.mono fun bs s q vs H1 ⟨t, A1, hp⟩ => ?_⟩
    obtain ⟨pp, sl, Z, al, AA⟩ := A1
    split at q
    · rename_i xs hx
      obtain ⟨ev, he, q⟩ := q.ofO
      refine bi_ok AA b (bos_mem sl hp hx fun q hq => List.mem_append_right _ (List.mem_append_left _ hq)) he fun u H' A' => q u H' (fin_rootS sl (List.sublist_append_right _ _) A')
    · exact q.elim
where bos_mem {s : S} {σ : L2.St} {p t R1 : Rt} (sl : SlotR s.env σ p) : ∀ {bs : List Bo} {vs : List V} {xs : List Ev}, Paired (fun b v => (∀ q ∈ bR b v, q ∈ t) ∧ bV b v σ) bs vs → rsvs s bs = some xs → (∀ q ∈ t, q ∈ p ++ R1) → Paired (fun e v => (e, v) ∈ p ++ R1) xs vs
  | [], _, xs, .nil, h, _ => by cases h; exact .nil
  | b :: bs, v :: vs, xs, .cons h1 h2, h, ht => by
    have h : ((rsv s b).bind fun e => (rsvs s bs).map (e :: ·)) = some xs := h
    cases hb : rsv s b with
    | none => rw [hb] at h; cases h
    | some e =>
      rw [hb] at h
      have h : (rsvs s bs).map (e :: ·) = some xs := h
      cases hr : rsvs s bs with
      | none => rw [hr] at h; cases h
      | some ys =>
        rw [hr] at h
        cases h
        exact .cons (bo_mem sl h1.2 hb fun q hq => ht q (h1.1 q hq)) (bos_mem sl h2 hr ht)
theorem e_isi (g : Gd G cl kt lv N X sc tsc) {T : Ty} {e t' : Expr} {p : Pos} (hn : mName sc "isinstance" e = true) (hb : G.bt.contains "isinstance" = true) (hs : noStar x = true) (ha : PE X x (LBf X cl W (bo a (eval kt a)))) (hs2 : noStar t' = true) (hn2 : mName sc (tyN T) t' = true) (hb2 : G.bt.contains (tyN T) = true) :
    PE X (.Call e [x, t'] [] p) (LEf X cl W (eval kt (.isi a T))) := by
  obtain ⟨pos, rfl, hg, hdb, hnn⟩ := g.name hn
  obtain ⟨pos2, rfl, hg2, hdb2, hnn2⟩ := g.name hn2
  have ht : PE X (.Name (tyN T) pos2) (tC (.ty (tyS T))) := pe_bltn hg2 (g.bt _ hb2) (boot_ty T) rfl hnn2 hdb2
  refine (pe_callB call_isi hg (g.bt _ hb) (by decide +kernel) (pa_cons ha (pa_cons ht pa_nil (star_cons hs2)) (star_cons hs)) hnn hdb (star_cons hs) (by rw [star_cons hs2]; rfl)).imp fun σ H Q ⟨env, tab, r, A, q⟩ => ?_
  rw [eval_isi] at q
  refine ⟨env, tab, r, A, q.bind.mono fun x s q v H1 A1 v1 => ?_⟩
  obtain ⟨pp, sl, Z, al, AA⟩ := id A1
  split at q
  · rename_i e1 h1
    obtain ⟨ev, he, q⟩ := q.ofO
    cases hc : isT s.tab e1 T with
    | none => rw [hc] at he; cases he
    | some c =>
      rw [hc] at he
      cases he
      exact isi_ok AA (bo_mem sl v1 h1 fun q hq => bR_mem_r hq) hc (q _ H1 ((A1.sublist bR_sub).addBl c))
  · exact q.elim
theorem e_glob (g : Gd G cl kt lv N X sc tsc) {z : Str} (hn : mName sc z x = true) : PE X x (LEf X cl W (eval kt (.glob z))) := by
  obtain ⟨pos, rfl, hg, hdb, hnn⟩ := g.name hn
  cases hc : kt.con z with
  | none =>
    refine ⟨fun pins s σ H Q I ⟨env, tab, r, A, q⟩ => ?_⟩
    rw [eval_glob] at q
    simp only [hc] at q
    exact q.elim
  | some d =>
    obtain ⟨u, v, hm, rv, hr⟩ := g.con z d hc
    refine (pe_glob hg hm rv hdb).imp fun σ H Q ⟨env, tab, r, A, q⟩ => ?_
    rw [eval_glob] at q
    simp only [hc] at q
    exact q _ H (A.addD hr)
theorem e_share (ha : PE X x (LEf X cl W (eval kt a))) : PE X x (LEf X cl W (eval kt (.share a))) := by
  refine ha.imp fun σ H Q ⟨env, tab, r, A, q⟩ => ?_
  rw [eval_share] at q
  refine ⟨env, tab, r, A, q.bind.mono fun x s q v H1 A1 => ?_⟩
  split at q
  · rename_i xs
    refine q _ H1 (A1.front fun p ⟨Z, al, AA⟩ => ?_)
    have h := AA.roots (Ev.o xs, v) List.mem_cons_self
    cases h with
    | o e1 e2 => exact ⟨Z, _, AA.share rfl (.lst e1 e2)⟩
  · rename_i ks xs
    refine q _ H1 (A1.front fun p ⟨Z, al, AA⟩ => ?_)
    have h := AA.roots (Ev.od ks xs, v) List.mem_cons_self
    cases h with
    | od e1 e2 e3 => exact ⟨Z, _, AA.share rfl (.dic e1 e2 e3)⟩
  · exact q.elim
end
end SH

end
section
set_option Elab.async false
set_option linter.all false
set_option maxRecDepth 100000
set_option maxHeartbeats 4000000
namespace SH
open PySem PySem.Spec L2 PyProof.Rows

theorem folded_ok {a : Expr} (h : noSet a = true) (env : PySem.Env) : ∀ x, foldedSetIterable a env x = pure x := by
  intro x
  cases a <;> first | rfl | cases h
theorem mI_noSet {G : Gs} {N : List Str} {sc : Scope} {tg : Expr} {it : Gen} {a : Expr} (h : mI G N sc tg it a = true) : noSet a = true := by
  cases it with
  | seq e => exact (band (show (noSet a && mE G N sc e a) = true from h)).1
  | _ => cases a <;> first | rfl | exact absurd h Bool.false_ne_true
section
variable {K : PySem.W.Frag} {cl : Str → Addr} {env env' : Env} {σ : L2.St} {r r0 r' : Rt} {tab : List Ob} {H H' : Hp} {x : V}
theorem walk_abs {J : L2.It} {its : List SH.D} (wk : WalkD K cl J r0 its) {i : Nat} (A : AbsS K cl env σ (r0 ++ r) tab H) (hi : i < its.length) (y : J.yld i H x H') : ∃ d, its[i]? = some d ∧ AbsS K cl env σ ((.d d, x) :: (r0 ++ r)) tab H' := by
  obtain ⟨p, s, A⟩ := A
  have A2 : Abs K cl (r0 ++ (p ++ r)) tab H := A.perm (by
    rw [← List.append_assoc, ← List.append_assoc]
    exact List.Perm.append_right _ List.perm_append_comm)
  obtain ⟨d, h1, A3⟩ := wk.yld _ _ _ _ _ _ A2 hi y
  refine ⟨d, h1, p, s, A3.perm ?_⟩
  refine List.perm_middle.trans (List.Perm.cons _ ?_)
  rw [← List.append_assoc, ← List.append_assoc]
  exact List.Perm.append_right _ List.perm_append_comm
theorem walk_go {J : L2.It} {its : List SH.D} (wk : WalkD K cl J r0 its) {i : Nat} (A : AbsS K cl env σ (r0 ++ r) tab H) (hi : i < its.length) : J.go i H := by
  obtain ⟨p, s, A⟩ := A
  exact wk.go (p ++ r) _ _ _ (A.perm (by
    rw [← List.append_assoc, ← List.append_assoc]
    exact List.Perm.append_right _ List.perm_append_comm)) hi
theorem walk_stop {J : L2.It} {its : List SH.D} (wk : WalkD K cl J r0 its) (A : AbsS K cl env σ (r0 ++ r) tab H) : J.stop its.length H := by
  obtain ⟨p, s, A⟩ := A
  exact wk.stop (p ++ r) _ _ (A.perm (by
    rw [← List.append_assoc, ← List.append_assoc]
    exact List.Perm.append_right _ List.perm_append_comm))
/-- the sources go back to their slots -/
theorem back_ok : ∀ {src : List (Ev × Option Nat)} {r0 : Rt} {env : Env}, Paired (srcV σ) src r0 → giveBack src env = some env' → AbsS K cl env σ (r0 ++ r) tab H → AbsS K cl env' σ r tab H
  | [], _, env, .nil, h, A => by cases h; exact A
  | (e, none) :: src, t :: r0, env, .cons h1 h2, h, A => back_ok (src := src) h2 h A.tail
  | (e, some i) :: src, t :: r0, env, .cons h1 h2, h, A => by
    have h : (match env[i]? with
      | some none => giveBack src (env.set i (some e))
      | _ => none) = some env' := h
    split at h
    · rename_i q
      obtain ⟨t1, t2⟩ := t
      obtain ⟨e1, e2⟩ := h1
      have e1 : t1 = e := e1
      subst e1
      exact back_ok h2 h (A.back q (e2 i rfl))
    · cases h
end
section
variable {G : Gs} {cl : Str → Addr} {kt : Kt} {lv : Nat} {N : List Str} {X : Cx} {sc tsc : Scope} {W : WX}
abbrev WF : WX := fun _ _ _ _ => False
theorem takesF {X : Cx} : Takes X WF := takes0
/-- a turn's test -/
def tCto (X : Cx) (cl : Str → Addr) (kt : Kt) (c : Ex) : TT := if isNop c = true then tYes else LTf X cl WF (tsf (eval kt c))
theorem cto_nop {c : Ex} (h : isNop c = true) (f : S → R Ev) (s : S) : cto c f s = .ok true s := by
  cases c <;> first | rfl | cases h
theorem cto_not {c : Ex} (h : isNop c = false) (f : S → R Ev) (s : S) : cto c f s = tsf f s := by
  cases c <;> first | rfl | cases h
theorem comp_imp {own : List (Str × Nat)} {tgt : Tg} {it : Gen} {c e : Ex} (ht : tgIn (own.map (·.2)) tgt = true) {σ : L2.St} {H : Hp} {Q : VK} : LEf X cl W (eval kt (.comp own tgt it c e)) σ H Q →
    tLc (LIf X cl W (evIt kt it)) (LGf X cl (ownT tgt) (bindG tgt)) (tCto X cl kt c) (LEf X cl WF (eval kt e)) (own.map (·.2)) σ H Q := fun ⟨env, tab, r, A, q⟩ => by
  rw [eval_comp] at q
  refine ⟨env, tab, r, A, q.bind.mono fun w s q J r0 H1 A1 wk hp D hD => ?_⟩
  split at q
  · rename_i hlim
    let own' := own.map (·.2)
    refine ⟨fun i m H => m = w.its.length - i ∧ i ≤ w.its.length ∧ ∃ (s' : S) (acc : List SH.D), AbsS X.K cl (wipeE s'.env own') (wipe σ own') (r0 ++ ((.o acc, .ref D) :: r)) s'.tab H ∧ acc.length ≤ i ∧
      PostR X cl W σ r ((loopC (bindG tgt) own' (cto c (eval kt c)) (eval kt e) (w.its.drop i) acc s').bind (compEnd w.src)) fun e s => ∀ v H', AbsS X.K cl s.env σ ((e, v) :: r) s.tab H' → Q v H', ⟨w.its.length, by simp, Nat.zero_le _, s, [], ?_, Nat.zero_le _, q⟩, ?_⟩
    · have A2 := A1.wipe own'
      obtain ⟨pp, sl, Z, al, AA⟩ := A2
      have A3 := (AA.newLst (xs := []) (vs := []) hD .nil).abs
      refine ⟨pp, sl, A3.perm ?_⟩
      rw [← List.append_assoc, ← List.append_assoc]
      exact List.perm_middle
    · rintro i m H2 ⟨rfl, hi, s', acc, A2, hacc, q2⟩
      by_cases hlt : i < w.its.length
      · refine .inr ⟨walk_go wk A2 hlt, fun H' => ∃ m', m' < w.its.length - i ∧ (m' = w.its.length - (i + 1) ∧ i + 1 ≤ w.its.length ∧ ∃ (s' : S) (acc : List SH.D), AbsS X.K cl (wipeE s'.env own') (wipe σ own') (r0 ++ ((.o acc, .ref D) :: r)) s'.tab H' ∧ acc.length ≤ i + 1 ∧
          PostR X cl W σ r ((loopC (bindG tgt) own' (cto c (eval kt c)) (eval kt e) (w.its.drop (i + 1)) acc s').bind (compEnd w.src)) fun e s => ∀ v H', AbsS X.K cl s.env σ ((e, v) :: r) s.tab H' → Q v H'), fun H' ⟨m', h1, h2⟩ => ⟨m', h1, h2⟩, fun x H' y => ?_⟩
        obtain ⟨d, hd, A3⟩ := walk_abs wk A2 hlt y
        have hdrop : w.its.drop i = d :: w.its.drop (i + 1) := by
          rw [List.drop_eq_getElem_cons hlt]
          rw [List.getElem?_eq_getElem hlt] at hd
          rw [Option.some.inj hd]
        rw [hdrop] at q2
        unfold loopC at q2
        cases hb2 : bindG tgt d (wipeE s'.env own') with
        | none => rw [hb2] at q2; exact q2.elim
        | some env1 =>
          rw [hb2] at q2
          dsimp only at q2
          refine ⟨d, wipeE s'.env own', env1, s'.tab, _, A3, hb2, fun σ1 H3 A4 eH hw => ?_⟩
          have hw2 : wipe σ1 own' = wipe σ own' := (hw own' (tgIn_own ht)).trans (wipe_wipe σ own')
          refine ⟨hw2, ?_⟩
          -- the next turn's state
          have next : ∀ (s2 : S) (acc2 : List SH.D) (H4 : Hp), AbsS X.K cl s2.env σ1 (r0 ++ ((.o acc2, .ref D) :: r)) s2.tab H4 → acc2.length ≤ i + 1 →
              PostR X cl W σ r ((loopC (bindG tgt) own' (cto c (eval kt c)) (eval kt e) (w.its.drop (i + 1)) acc2 s2).bind (compEnd w.src)) (fun e s => ∀ v H', AbsS X.K cl s.env σ ((e, v) :: r) s.tab H' → Q v H') →
              ∃ m', m' < w.its.length - i ∧ (m' = w.its.length - (i + 1) ∧ i + 1 ≤ w.its.length ∧ ∃ (s' : S) (acc : List SH.D), AbsS X.K cl (wipeE s'.env own') (wipe σ own') (r0 ++ ((.o acc, .ref D) :: r)) s'.tab H4 ∧ acc.length ≤ i + 1 ∧
                PostR X cl W σ r ((loopC (bindG tgt) own' (cto c (eval kt c)) (eval kt e) (w.its.drop (i + 1)) acc s').bind (compEnd w.src)) fun e s => ∀ v H', AbsS X.K cl s.env σ ((e, v) :: r) s.tab H' → Q v H') := fun s2 acc2 H4 A5 hl q3 => by
            have A6 := A5.wipe own'
            rw [hw2] at A6
            exact ⟨w.its.length - (i + 1), by omega, rfl, hlt, s2, acc2, A6, hl, q3⟩
          -- the element
          have elt : ∀ (s2 : S) (H4 : Hp), AbsS X.K cl s2.env σ1 (r0 ++ ((.o acc, .ref D) :: r)) s2.tab H4 →
              PostR X cl W σ r ((match eval kt e s2 with
                | .ok y s => loopC (bindG tgt) own' (cto c (eval kt c)) (eval kt e) (w.its.drop (i + 1)) (acc ++ [y.toD]) s
                | _ => .st).bind (compEnd w.src)) (fun e s => ∀ v H', AbsS X.K cl s.env σ ((e, v) :: r) s.tab H' → Q v H') →
              LEf X cl WF (eval kt e) σ1 H4 fun y H5 => ∃ acc, H5 D = some (.lst acc) ∧ acc.length < sizeLine ∧ ∃ m', m' < w.its.length - i ∧ (m' = w.its.length - (i + 1) ∧ i + 1 ≤ w.its.length ∧ ∃ (s' : S) (acc2 : List SH.D), AbsS X.K cl (wipeE s'.env own') (wipe σ own') (r0 ++ ((.o acc2, .ref D) :: r)) s'.tab (upd H5 D (.lst (acc ++ [y]))) ∧ acc2.length ≤ i + 1 ∧
                PostR X cl W σ r ((loopC (bindG tgt) own' (cto c (eval kt c)) (eval kt e) (w.its.drop (i + 1)) acc2 s').bind (compEnd w.src)) fun e s => ∀ v H', AbsS X.K cl s.env σ ((e, v) :: r) s.tab H' → Q v H') := fun s2 H4 A5 q3 => by
            refine ⟨s2.env, s2.tab, _, A5, ?_⟩
            cases he : eval kt e s2 with
            | st => rw [he] at q3; exact q3.elim
            | ex x s => rw [he] at q3; exact q3.elim
            | ok y s3 =>
              rw [he] at q3
              intro v H5 A6
              have A7 := A6.toD
              obtain ⟨pp, sl, Z, al, AA⟩ := A7
              have hin : (Ev.o acc, V.ref D) ∈ pp ++ (Ev.d y.toD, v) :: (r0 ++ (Ev.o acc, V.ref D) :: r) := by simp
              cases AA.roots _ hin with
              | @o _ av _ e1 e2 =>
                have rd := AA.rp (by simp : (Ev.d y.toD, v) ∈ pp ++ (Ev.d y.toD, v) :: (r0 ++ (Ev.o acc, V.ref D) :: r))
                have hl : acc.length = av.length := e2.length
                refine ⟨av, e1, by rw [← lim_eq, ← hl]; omega, ?_⟩
                refine next s3 (acc ++ [y.toD]) _ ⟨pp, sl, ?_⟩ (by simp; omega) q3
                have AA2 : AbsAt X.K cl Z al ((Ev.o acc, V.ref D) :: (pp ++ (r0 ++ r))) s3.tab H5 := by
                  refine (AA.perm (r' := (Ev.o acc, V.ref D) :: (Ev.d y.toD, v) :: (pp ++ (r0 ++ r))) ?_).sublist (List.Sublist.cons_cons _ (List.sublist_cons_self _ _))
                  have p1 : (pp ++ (Ev.d y.toD, v) :: (r0 ++ (Ev.o acc, V.ref D) :: r)).Perm ((Ev.d y.toD, v) :: (pp ++ (r0 ++ (Ev.o acc, V.ref D) :: r))) := List.perm_middle
                  have p2 : (pp ++ (r0 ++ (Ev.o acc, V.ref D) :: r)).Perm ((Ev.o acc, V.ref D) :: (pp ++ (r0 ++ r))) := by
                    rw [← List.append_assoc, ← List.append_assoc]
                    exact List.perm_middle
                  exact ((List.Perm.swap _ _ _).trans (List.Perm.cons _ p2.symm)).trans p1.symm
                refine ((AA2.setLst (ys := acc ++ [y.toD]) (vs := av ++ [v]) (e2.append (.cons rd .nil))).abs).perm ?_
                rw [← List.append_assoc, ← List.append_assoc]
                exact List.perm_middle
          by_cases hn : isNop c = true
          · unfold tCto
            rw [if_pos hn]
            rw [cto_nop hn] at q2
            unfold tYes
            dsimp only
            rw [if_pos rfl]
            exact elt _ _ A4 q2
          · have hn' : isNop c = false := by simpa using hn
            unfold tCto
            rw [if_neg hn]
            rw [cto_not hn'] at q2
            refine ⟨env1, s'.tab, _, A4, ?_⟩
            cases ht2 : tsf (eval kt c) { s' with env := env1 } with
            | st => rw [ht2] at q2; exact q2.elim
            | ex x s => rw [ht2] at q2; exact q2.elim
            | ok bb s2 =>
              rw [ht2] at q2
              intro H4 A5
              cases bb with
              | true =>
                refine iteT ?_
                exact elt _ _ A5 q2
              | false =>
                refine iteF ?_
                exact next _ _ _ A5 (by omega) q2
      · have e0 : i = w.its.length := by omega
        subst e0
        refine .inl ⟨walk_stop wk A2, ?_⟩
        rw [List.drop_length] at q2
        unfold loopC at q2
        have q3 : PostR X cl W σ r (match giveBack w.src (wipeE s'.env own') with
          | some env => R.ok (.o acc) { s' with env := env }
          | none => .st) (fun e s => ∀ v H', AbsS X.K cl s.env σ ((e, v) :: r) s.tab H' → Q v H') := q2
        split at q3
        · rename_i env2 hg
          refine q3 _ H2 (back_ok hp hg ?_)
          exact AbsS.unwipe own' A2 fun i hi => wipeE_none hi
        · exact q3.elim
  · exact q.elim
theorem e_comp (g : Gd G cl kt lv N X sc tsc) {own : List (Str × Nat)} {tgt : Tg} {it : Gen} {c e : Ex} {e' tg iter : Expr} {ifs : List Expr} {scope : Scope} {p : Pos} (hb : blkC N sc scope own = true) (ht : tgIn (own.map (·.2)) tgt = true) (hm : mTg N scope tgt tg = true) (hI : mI G N sc tg it iter = true)
    (hi : PI X tg iter (LIf X cl W (evIt kt it))) (hc : mIfs G N (relS scope sc) c ifs)
    (ihc : ∀ (X' : Cx) (c' : Expr), Gd G cl kt lv N X' (relS scope sc) scope → mE G N (relS scope sc) c c' = true → PT X' c' (LTf X' cl WF (tsf (eval kt c))))
    (ihe : ∀ (X' : Cx), Gd G cl kt lv N X' (relS scope sc) scope → PE X' e' (LEf X' cl WF (eval kt e))) :
    PE X (.ListComp e' [⟨tg, iter, ifs, 0⟩] scope p) (LEf X cl W (eval kt (.comp own tgt it c e))) := by
  have ok : BlkOk X.N X.env.scope scope own := by
    rw [g.hN, g.hsc]
    exact blkOk_by hb
  refine (pe_lc (own := own) (g := LGf X cl (ownT tgt) (bindG tgt)) (tt := tCto X cl kt c) (te := LEf X cl WF (eval kt e)) g.calm (by rw [g.hN]; exact g.nd) hi ok (fun s H C cells fp => sG (g.blk s H scope C cells fp) tgt hm) (fun s H C cells fp => ?_) (fun s H C cells fp => ihe _ (g.blk s H scope C cells fp)) (folded_ok (mI_noSet hI) _)).imp fun σ H Q q => comp_imp ht q
  · have g' := g.blk s H scope C cells fp
    match ifs, hc with
    | [], hc =>
      have hc : isNop c = true := hc
      unfold tCto
      rw [if_pos hc]
      exact pts_nil
    | [c'], hc =>
      obtain ⟨h1, h2⟩ := hc
      unfold tCto
      rw [if_neg (by rw [h1]; decide)]
      exact pts_one (ihc _ c' g' h2)
    | _ :: _ :: _, hc => exact hc.elim
/-- name = [..] on the name's line -/
theorem ps_comp (g : Gd G cl kt lv N X sc tsc) {own : List (Str × Nat)} {tgt : Tg} {it : Gen} {c e : Ex} {e' tg iter : Expr} {ifs : List Expr} {scope : Scope} {p py spos : Pos} {i : Nat} {y : Str} (hy : X.N[i]? = some y) (hyl : X.env.scope.names.lookup y = some .local)
    (hsw : swapsWith (.ListComp e' [⟨tg, iter, ifs, 0⟩] scope p) (some (.Name y py)) spos.line X.env = pure true)
    (hb : blkC N sc scope own = true) (ht : tgIn (own.map (·.2)) tgt = true) (hm : mTg N scope tgt tg = true) (hI : mI G N sc tg it iter = true)
    (hi : PI X tg iter (LIf X cl W (evIt kt it))) (hc : mIfs G N (relS scope sc) c ifs)
    (ihc : ∀ (X' : Cx) (c' : Expr), Gd G cl kt lv N X' (relS scope sc) scope → mE G N (relS scope sc) c c' = true → PT X' c' (LTf X' cl WF (tsf (eval kt c))))
    (ihe : ∀ (X' : Cx), Gd G cl kt lv N X' (relS scope sc) scope → PE X' e' (LEf X' cl WF (eval kt e))) :
    PS X (.Assign [.Name y py] (.ListComp e' [⟨tg, iter, ifs, 0⟩] scope p) spos) (tAsg (LEf X cl W (eval kt (.comp own tgt it c e))) (gName i)) := by
  have ok : BlkOk X.N X.env.scope scope own := by
    rw [g.hN, g.hsc]
    exact blkOk_by hb
  refine ⟨fun pins s σ H D I h => (ps_setLc (own := own) (g := LGf X cl (ownT tgt) (bindG tgt)) (tt := tCto X cl kt c) (te := LEf X cl WF (eval kt e)) g.calm (by rw [g.hN]; exact g.nd) hy hyl hsw hi ok (fun s H C cells fp => sG (g.blk s H scope C cells fp) tgt hm) (fun s H C cells fp => ?_) (fun s H C cells fp => ihe _ (g.blk s H scope C cells fp)) (folded_ok (mI_noSet hI) _)).run pins s σ H D I (comp_imp ht h)⟩
  · have g' := g.blk s H scope C cells fp
    match ifs, hc with
    | [], hc =>
      have hc : isNop c = true := hc
      unfold tCto
      rw [if_pos hc]
      exact pts_nil
    | [c'], hc =>
      obtain ⟨h1, h2⟩ := hc
      unfold tCto
      rw [if_neg (by rw [h1]; decide)]
      exact pts_one (ihc _ c' g' h2)
    | _ :: _ :: _, hc => exact hc.elim
end
end SH

end
section
set_option Elab.async false
set_option linter.all false
set_option maxRecDepth 100000
set_option maxHeartbeats 4000000
namespace SH
open PySem PySem.Spec L2 PyProof.Rows
section
variable {G : Gs} {cl : Str → Addr} {kt : Kt} {lv : Nat} {N : List Str} {X : Cx} {sc tsc : Scope} {W : WX} {a b c e : Ex} {x x' x'' : Expr}
theorem a_nil : PA X [] (LEsf X cl W (evals kt .nil)) := pa_nil.imp fun σ H Q ⟨env, tab, r, A, q⟩ => q [] H rfl A
theorem a_cons {es : Exs} {as : List Expr} (hs : noStar x = true) (ha : PE X x (LEf X cl W (eval kt e))) (h : PA X as (LEsf X cl W (evals kt es))) : PA X (x :: as) (LEsf X cl W (evals kt (.cons e es))) := by
  refine (pa_cons ha h (star_cons hs)).imp fun σ H Q ⟨env, tab, r, A, q⟩ => ?_
  rw [evals_cons] at q
  refine ⟨env, tab, r, A, q.bind.mono fun x s q v H1 A1 => ?_⟩
  have A2 := A1.toD
  refine ⟨s.env, s.tab, _, A2, (q.bind.roots (r' := (Ev.d x.toD, v) :: r) (List.sublist_cons_self _ _)).mono fun ds s q vs H2 hl A3 => ?_⟩
  refine q (v :: vs) H2 (by simp [hl]) (A3.perm ?_)
  show (((Ev.d x.toD, v) :: (ds.map Ev.d).zip vs) ++ r).Perm _
  exact List.perm_middle.symm
theorem b_nil : PA X [] (LBsf X cl W (evbs kt .nil)) := pa_nil.imp fun σ H Q ⟨env, tab, r, A, q⟩ => q [] H ⟨[], A, .nil⟩
theorem b_cons {es : Exs} {as : List Expr} (hs : noStar x = true) (ha : PE X x (LBf X cl W (bo e (eval kt e)))) (h : PA X as (LBsf X cl W (evbs kt es))) : PA X (x :: as) (LBsf X cl W (evbs kt (.cons e es))) := by
  refine (pa_cons ha h (star_cons hs)).imp fun σ H Q ⟨env, tab, r, A, q⟩ => ?_
  rw [evbs_cons] at q
  refine ⟨env, tab, r, A, q.bind.mono fun x s q v H1 A1 v1 => ?_⟩
  refine ⟨s.env, s.tab, _, A1, (q.bind.roots bR_sub).mono fun bs s q vs H2 ⟨t, A3, hp⟩ => ?_⟩
  refine q (v :: vs) H2 ⟨t ++ bR x v, by rw [List.append_assoc]; exact A3, .cons ⟨fun q hq => List.mem_append_right _ hq, v1⟩ (L2.Paired.mapP hp fun b w ⟨h1, h2⟩ => ⟨fun q hq => List.mem_append_left _ (h1 q hq), h2⟩)⟩
/-- a source -/
def LSf (X : Cx) (cl : Str → Addr) (W : WX) (f : S → R (Ev × Option Nat)) : TE := fun σ H Q => ∃ env tab r, AbsS X.K cl env σ r tab H ∧ PostR X cl W σ r (f ⟨env, tab⟩) fun w s => ∀ v H', AbsS X.K cl s.env σ ((w.1, v) :: r) s.tab H' → (∀ i, w.2 = some i → σ[i]? = some (some v)) → Q v H'
theorem pe_ls (ha : PE X x (LEf X cl W (eval kt e))) (hv : ∀ i, e = .bor i → ∃ y pos, x = .Name y pos ∧ X.N[i]? = some y ∧ Vis X.env.scope y ∧ (y == ("__debug__" : Str)) = false ∧ (y == ("__classdict__" : Str)) = false) : PE X x (LSf X cl W (so e (eval kt e))) := by
  have gen : (∀ s, so e (eval kt e) s = (eval kt e s).bind fun x s => .ok (x, none) s) → PE X x (LSf X cl W (so e (eval kt e))) := fun hb => by
    refine ha.imp fun σ H Q ⟨env, tab, r, A, q⟩ => ⟨env, tab, r, A, ?_⟩
    rw [hb] at q
    exact q.bind.mono fun e s q v H' A' => q v H' A' fun i h => nomatch h
  cases e with
  | bor i =>
    obtain ⟨y, pos, rfl, hN, hV, hd, hc⟩ := hv i rfl
    refine (pe_var hN hV hd hc).imp fun σ H Q ⟨env, tab, r, A, q⟩ => ?_
    have q : PostR X cl W σ r (borOf i ⟨env, tab⟩) _ := q
    unfold borOf at q
    split at q
    · rename_i d he
      obtain ⟨p, s, AA⟩ := id A
      obtain ⟨v, P, B, h1, rfl, _⟩ := s.at_some (slot_get he)
      refine ⟨v, h1, q v H ⟨_, s, ?_⟩ fun i h => nomatch h⟩
      have := AA.dup (x := d) (v := v) (by simp)
      exact this.perm List.perm_middle
    · rename_i e0 hne he
      obtain ⟨v, h1, A1⟩ := A.mv (slot_get he)
      exact ⟨v, h1, q v H A1 fun j h => by cases h; exact h1⟩
    · exact q.elim
  | _ => exact gen fun _ => rfl
/-- over what is found behind a source -/
theorem any_ok {σ : L2.St} {r : Rt} {s : S} {H : Hp} {w : Ev × Option Nat} {v : V} {xs : List D} {Rr : L2.It → Hp → Prop} (hx : itemsOf s.tab w.1 = some xs) (A : AbsS X.K cl s.env σ ((w.1, v) :: r) s.tab H) (hv : ∀ i, w.2 = some i → σ[i]? = some (some v))
    (k : ∀ J r0 H', AbsS X.K cl s.env σ (r0 ++ r) s.tab H' → WalkD X.K cl J r0 xs → Paired (srcV σ) [w] r0 → Rr J H') :
    (∃ a ys, v = .ref a ∧ SqL X.K H a ys ∧ Rr (Itl X.K a) H) ∨ (∃ a ys, v = .ref a ∧ SqT X.K H a ys ∧ Rr (Itt X.K a) H) ∨ (∃ z, v = .str z ∧ Rr (Its z) H) := by
  obtain ⟨p, sl, Z, al, AA⟩ := id A
  have hm : (w.1, v) ∈ p ++ (w.1, v) :: r := by simp
  have hp : Paired (srcV σ) [w] [(w.1, v)] := .cons ⟨rfl, hv⟩ .nil
  rcases its_kind hx with hk | hk | ⟨z, hz, e⟩
  · obtain ⟨a, ys, rfl, h1, h2⟩ := its_l AA hm hx hk
    exact .inl ⟨a, ys, rfl, h1, k _ [(w.1, .ref a)] H A (walkD_l hx hk) hp⟩
  · obtain ⟨a, ys, rfl, h1, h2⟩ := its_t AA hm hx hk
    exact .inr (.inl ⟨a, ys, rfl, h1, k _ [(w.1, .ref a)] H A (walkD_t hx hk) hp⟩)
  · have hm2 : (Ev.d (D.str z), v) ∈ p ++ (w.1, v) :: r := by rw [← hz]; exact hm
    have ev := AA.str_ hm2
    refine .inr (.inr ⟨z, ev, k _ [(w.1, v)] H A ?_ hp⟩)
    rw [hz, e]
    exact walkD_s
theorem i_seq {tg : Expr} (ha : PE X x (LSf X cl W (so e (eval kt e)))) : PI X tg x (LIf X cl W (evIt kt (.seq e))) := by
  refine (pi_any ha).imp fun σ H Rr ⟨env, tab, r, A, q⟩ => ?_
  rw [evIt_seq] at q
  refine ⟨env, tab, r, A, q.bind.mono fun w s q v H1 A1 hv => ?_⟩
  obtain ⟨src, hs, q⟩ := q.ofO
  cases hx : itemsOf s.tab w.1 with
  | none => rw [hx] at hs; cases hs
  | some xs =>
    rw [hx] at hs
    cases hs
    exact any_ok hx A1 hv q
theorem i_enum (g : Gd G cl kt lv N X sc tsc) {tg f : Expr} {p : Pos} (ht : isTup tg = true) (hn : mName sc "enumerate" f = true) (hb : G.bt.contains "enumerate" = true) (hs : noStar x = true) (ha : PE X x (LSf X cl W (so e (eval kt e)))) : PI X tg (.Call f [x] [] p) (LIf X cl W (evIt kt (.enum e))) := by
  obtain ⟨pos, rfl, hg, hdb, hnn⟩ := g.name hn
  cases tg with
  | Tuple elts j tp =>
    refine (pi_enumA hg (g.bt _ hb) (pa_cons ha pa_nil (star_cons hs)) (star_cons hs)).imp fun σ H Rr ⟨env, tab, r, A, q⟩ => ?_
    rw [evIt_enum] at q
    refine ⟨env, tab, r, A, q.bind.mono fun w s q v H1 A1 hv => ?_⟩
    split at q
    · rename_i hk
      obtain ⟨src, hs, q⟩ := q.ofO
      cases hx : itemsOf s.tab w.1 with
      | none => rw [hx] at hs; cases hs
      | some xs =>
        rw [hx] at hs
        cases hs
        obtain ⟨p, sl, Z, al, AA⟩ := id A1
        have hm : (w.1, v) ∈ p ++ (w.1, v) :: r := by simp
        have hp : Paired (srcV σ) [w] [(w.1, v)] := .cons ⟨rfl, hv⟩ .nil
        rcases Bool.or_eq_true_iff.mp hk with hk | hk
        · obtain ⟨a, ys, rfl, h1, h2⟩ := its_l AA hm hx hk
          exact .inl ⟨a, ys, rfl, h1, q _ [(w.1, .ref a)] H1 A1 (walkD_el hx hk) hp⟩
        · obtain ⟨a, ys, rfl, h1, h2⟩ := its_t AA hm hx hk
          exact .inr ⟨a, ys, rfl, h1, q _ [(w.1, .ref a)] H1 A1 (walkD_et hx hk) hp⟩
    · exact q.elim
  | _ => cases ht
theorem i_zip (g : Gd G cl kt lv N X sc tsc) {tg f : Expr} {p : Pos} (ht : isTup tg = true) (hn : mName sc "zip" f = true) (hb : G.bt.contains "zip" = true) (hs : noStar x = true) (hs2 : noStar x' = true) (ha : PE X x (LSf X cl W (so a (eval kt a)))) (hb2 : PE X x' (LSf X cl W (so b (eval kt b)))) :
    PI X tg (.Call f [x, x'] [] p) (LIf X cl W (evIt kt (.zip a b))) := by
  obtain ⟨pos, rfl, hg, hdb, hnn⟩ := g.name hn
  cases tg with
  | Tuple elts j tp =>
    refine (RZ.pi_zipA hg (g.bt _ hb) (pa_cons ha (pa_cons hb2 pa_nil (star_cons hs2)) (star_cons hs)) (star_cons hs) (by rw [star_cons hs2]; rfl)).imp fun σ H Rr ⟨env, tab, r, A, q⟩ => ?_
    rw [evIt_zip] at q
    refine ⟨env, tab, r, A, q.bind.mono fun w s q v H1 A1 hv => ?_⟩
    refine ⟨s.env, s.tab, _, A1, (q.bind.roots (r' := (w.1, v) :: r) (List.sublist_cons_self _ _)).mono fun w2 s q v2 H2 A2 hv2 => ?_⟩
    split at q
    · rename_i xs ys h1 h2
      split at q
      · rename_i hk
        have q : PostR X cl W σ _ (R.ok (Src.mk (zipD xs ys) [w2, w]) s) _ := q
        obtain ⟨p, sl, Z, al, AA⟩ := id A2
        have hm1 : (w.1, v) ∈ p ++ (w2.1, v2) :: (w.1, v) :: r := by simp
        have hm2 : (w2.1, v2) ∈ p ++ (w2.1, v2) :: (w.1, v) :: r := by simp
        have hp : Paired (srcV σ) [w2, w] [(w2.1, v2), (w.1, v)] := .cons ⟨rfl, hv2⟩ (.cons ⟨rfl, hv⟩ .nil)
        rcases Bool.or_eq_true_iff.mp hk with hk | hk
        · obtain ⟨k1, k2⟩ := band hk
          obtain ⟨a, us, rfl, e1, e2⟩ := its_l AA hm1 h1 k1
          obtain ⟨b, us2, rfl, e3, e4⟩ := its_l AA hm2 h2 k2
          exact ⟨a, b, us, us2, rfl, .inl ⟨e1, e3, q _ [(w2.1, .ref b), (w.1, .ref a)] H2 A2 (walkD_zl h1 k1 h2 k2) hp⟩⟩
        · obtain ⟨k1, k2⟩ := band hk
          obtain ⟨a, us, rfl, e1, e2⟩ := its_t AA hm1 h1 k1
          obtain ⟨b, us2, rfl, e3, e4⟩ := its_t AA hm2 h2 k2
          exact ⟨a, b, us, us2, rfl, .inr ⟨e1, e3, q _ [(w2.1, .ref b), (w.1, .ref a)] H2 A2 (walkD_zt h1 k1 h2 k2) hp⟩⟩
      · exact q.elim
    · exact q.elim
  | _ => cases ht
theorem i_rng1 (g : Gd G cl kt lv N X sc tsc) {tg f : Expr} {p : Pos} (hn : mName sc "range" f = true) (hb : G.bt.contains "range" = true) (hs : noStar x = true) (ha : PE X x (LEf X cl W (eval kt e))) : PI X tg (.Call f [x] [] p) (LIf X cl W (evIt kt (.rng1 e))) := by
  obtain ⟨pos, rfl, hg, hdb, hnn⟩ := g.name hn
  refine (pi_range1 hg (g.bt _ hb) (pa_cons ha pa_nil (star_cons hs)) (star_cons hs)).imp fun σ H Rr ⟨env, tab, r, A, q⟩ => ?_
  rw [evIt_rng1] at q
  refine ⟨env, tab, r, A, q.bind.mono fun w s q v H1 A1 => ?_⟩
  split at q
  · rename_i j
    split at q
    · rename_i hj
      have ev := A1.int_
      subst ev
      refine ⟨j, rfl, by omega, by omega, q _ [] H1 A1.tail ?_ .nil⟩
      have := walkD_r (K := X.K) (cl := cl) (lo := 0) (hi := j)
      rw [Int.sub_zero] at this
      exact this
    · exact q.elim
  · exact q.elim
theorem i_rng2 (g : Gd G cl kt lv N X sc tsc) {tg f : Expr} {p : Pos} (hn : mName sc "range" f = true) (hb : G.bt.contains "range" = true) (hs : noStar x = true) (hs2 : noStar x' = true) (ha : PE X x (LEf X cl W (eval kt a))) (hb2 : PE X x' (LEf X cl W (eval kt b))) : PI X tg (.Call f [x, x'] [] p) (LIf X cl W (evIt kt (.rng2 a b))) := by
  obtain ⟨pos, rfl, hg, hdb, hnn⟩ := g.name hn
  refine (pi_range2 hg (g.bt _ hb) (pa_cons ha (pa_cons hb2 pa_nil (star_cons hs2)) (star_cons hs)) (by rw [star_cons hs, star_cons hs2]; rfl) (star_cons hs2)).imp fun σ H Rr ⟨env, tab, r, A, q⟩ => ?_
  rw [evIt_rng2] at q
  refine ⟨env, tab, r, A, q.bind.mono fun w s q v H1 A1 => ?_⟩
  refine ⟨s.env, s.tab, _, A1, (q.bind.roots (r' := (w, v) :: r) (List.sublist_cons_self _ _)).mono fun w2 s q v2 H2 A2 => ?_⟩
  split at q
  · split at q
    · rename_i hj
      have e2 := A2.int_
      subst e2
      have e1 := A2.tail.int_
      subst e1
      exact ⟨_, _, rfl, ⟨by omega, by omega, by omega, by omega⟩, q _ [] H2 A2.tail.tail walkD_r .nil⟩
    · exact q.elim
  · exact q.elim
end
end SH
namespace SH
open PySem PySem.Spec L2 PyProof.Rows
section
variable {G : Gs} {cl : Str → Addr} {kt : Kt} {lv : Nat} {N : List Str} {X : Cx} {sc tsc : Scope} {W : WX} {a b c e : Ex} {x x' x'' : Expr}
theorem e_var {i : Nat} (g : Gd G cl kt lv N X sc tsc) (h : mVar N sc i x = true) : PE X x (LEf X cl W (eval kt (.var i))) := by
  obtain ⟨y, pos, rfl, hN, hV, hd, hc⟩ := g.mvar h
  refine (pe_var hN hV hd hc).imp fun σ H Q ⟨env, tab, r, A, q⟩ => ?_
  rw [eval_var] at q
  unfold varOf at q
  split at q
  · rename_i e he
    obtain ⟨v, h1, A1⟩ := A.var (slot_get he)
    exact ⟨v, h1, q v H A1⟩
  · exact q.elim
theorem e_mv {i : Nat} (g : Gd G cl kt lv N X sc tsc) (h : mVar N sc i x = true) : PE X x (LEf X cl W (eval kt (.mv i))) := by
  obtain ⟨y, pos, rfl, hN, hV, hd, hc⟩ := g.mvar h
  refine (pe_var hN hV hd hc).imp fun σ H Q ⟨env, tab, r, A, q⟩ => ?_
  rw [eval_mv] at q
  unfold mvOf at q
  split at q
  · rename_i e he
    obtain ⟨v, h1, A1⟩ := A.mv (slot_get he)
    exact ⟨v, h1, q v H A1⟩
  · exact q.elim
theorem e_stuck {f : S → R Ev} (h : ∀ s, f s = .st) : PE X x (LEf X cl W f) := ⟨fun pins s σ H Q I ⟨env, tab, r, A, q⟩ => by
  rw [h] at q
  exact q.elim⟩
theorem e_pop (g : Gd G cl kt lv N X sc tsc) {i : Nat} {o k' : Expr} {ap p : Pos} (h : mVar N sc i o = true) (hs : noStar k' = true) (hl : (ap.endLine == p.line) = true) (ha : PE X k' (LEf X cl W (eval kt a))) : PE X (.Call (.Attribute o "pop" ap) [k'] [] p) (LEf X cl W (eval kt (.pop i a))) := by
  obtain ⟨y, pos, rfl, hN, hV, hd, hc⟩ := g.mvar h
  refine (pe_bm PySem.F.plainAttrs_list PySem.F.slot_list_pop PySem.F.type_list_pop mt_popAt (pe_var hN hV hd hc) (pa_cons ha pa_nil (star_cons hs)) rfl (by rw [star_cons hs]; rfl) hl (star_cons hs) rfl).imp fun σ H Q ⟨env, tab, r, A, q⟩ => ?_
  rw [eval_pop] at q
  split at q
  · rename_i xs0 he0
    obtain ⟨pp, sl, Z, al, AA⟩ := id A
    obtain ⟨v, P, B, h1, e1, _⟩ := sl.at_some (slot_get he0)
    have hm : (Ev.o xs0, v) ∈ pp ++ r := by rw [e1]; simp
    have rt := AA.roots _ hm
    cases rt with
    | @o _ vs0 ad h2 h3 =>
      refine ⟨_, h1, .inl ⟨rfl, _, SqL.of h2⟩, env, tab, r, A, q.bind.mono fun x s q w H1 A1 => ?_⟩
      split at q
      · rename_i j xs he1
        unfold popAt at q
        split at q
        · rename_i hj
          split at q
          · rename_i n hn
            split at q
            · rename_i y hy
              have ew := A1.int_
              subst ew
              obtain ⟨p2, sl2, Z2, al2, AA2⟩ := A1.tail
              obtain ⟨v2, P2, B2, g1, g2, g3, _⟩ := sl2.at_some (slot_get he1)
              have ev : v2 = V.ref ad := by
                rw [h1] at g1
                exact (Option.some.inj (Option.some.inj g1)).symm
              subst ev
              have AA3 : AbsAt X.K cl Z2 al2 ((Ev.o xs, V.ref ad) :: (P2 ++ (B2 ++ r))) s.tab H1 := AA2.perm (by
                rw [g2, List.append_assoc, List.cons_append]
                exact List.perm_middle.symm)
              have rt2 := AA3.roots _ List.mem_cons_self
              cases rt2 with
              | @o _ vs _ k1 k2 =>
                obtain ⟨u, hu1, hu2⟩ := k2.get hy
                have hseq := ixN_seq hn
                refine ⟨ad, vs, j, n, u, rfl, rfl, k1, by omega, by omega, by rw [← k2.length]; exact hseq.1, hu1, ?_⟩
                refine q u _ ⟨_, g3 _, ?_⟩
                have AA4 := (AA3.setLst (k2.eraseIdx n)).addD hu2
                refine AA4.abs.perm ?_
                rw [List.append_assoc, List.cons_append]
                refine (List.perm_middle (l₁ := P2)).trans ?_
                refine (List.Perm.cons _ ?_).trans (List.Perm.swap _ _ _)
                rw [← List.append_assoc, ← List.append_assoc]
                exact List.perm_middle
            · exact q.elim
          · exact q.elim
        · exact q.elim
      · exact q.elim
  · exact q.elim
end
section
variable {X : Cx} {cl : Str → Addr} {Z H : Hp} {al : List Addr} {R0 : Rt} {tab : List Ob} {v w : V} {x e : Ev}
theorem anyT_ok {K : PySem.W.Frag} {t : String} (h : ∀ (T : Ty) (b : Bool), isT tab x T = some b → kitB t (tyS T) = some b) : ∀ {Ts : List Ty} {b : Bool}, anyT tab x Ts = some b → PySem.W.kitAny K (.type t) (Ts.map fun T => .type (tyS T)) = some b
  | [], b, q => by cases q; rfl
  | T :: Ts, b, q => by
    have q : ((isT tab x T).bind fun b => if b then some true else anyT tab x Ts) = some b := q
    cases hT : isT tab x T with
    | none => rw [hT] at q; cases q
    | some c =>
      rw [hT] at q
      have k1 := kit_ty (K := K) (h T c hT)
      have q : (if c = true then some true else anyT tab x Ts) = some b := q
      refine kitAny_cons k1 (fun e => ?_) (fun e => ?_)
      · subst e
        rw [if_neg (by decide)] at q
        exact anyT_ok h q
      · subst e
        rw [if_pos rfl] at q
        exact (Option.some.inj q).symm
theorem anyT_head {Ts : List Ty} {b : Bool} (h : anyT tab x Ts = some b) : Ts = [] ∨ ∃ T c, isT tab x T = some c := by
  cases Ts with
  | nil => exact .inl rfl
  | cons T Ts =>
    have q : ((isT tab x T).bind fun b => if b then some true else anyT tab x Ts) = some b := h
    cases hT : isT tab x T with
    | none => rw [hT] at q; cases q
    | some c => exact .inr ⟨T, c, hT⟩
end
section
variable {G : Gs} {cl : Str → Addr} {kt : Kt} {lv : Nat} {N : List Str} {X : Cx} {sc tsc : Scope} {W : WX} {a b c e : Ex} {x x' x'' : Expr}
theorem pa_tys (g : Gd G cl kt lv N X sc tsc) : ∀ {Ts : List Ty} {ts : List Expr}, mTys G sc Ts ts = true → PA X ts fun _ H Q => Q (Ts.map fun T => V.ty (tyS T)) H
  | [], [], _ => pa_nil
  | T :: Ts, t :: ts, h => by
    obtain ⟨h1, h4⟩ := band (show (noStar t && mName sc (tyN T) t && G.bt.contains (tyN T) && mTys G sc Ts ts) = true from h)
    obtain ⟨h1, h3⟩ := band h1
    obtain ⟨h1, h2⟩ := band h1
    obtain ⟨pos2, rfl, hg2, hdb2, hnn2⟩ := g.name h2
    have ht : PE X (.Name (tyN T) pos2) (tC (.ty (tyS T))) := pe_bltn hg2 (g.bt _ h3) (boot_ty T) rfl hnn2 hdb2
    exact pa_cons ht (pa_tys g h4) (star_cons h1)
  | [], _ :: _, h => absurd h Bool.false_ne_true
  | _ :: _, [], h => absurd h Bool.false_ne_true
theorem e_isit (g : Gd G cl kt lv N X sc tsc) {Ts : List Ty} {f : Expr} {ts : List Expr} {j : Nat} {q p : Pos} (hn : mName sc "isinstance" f = true) (hb : G.bt.contains "isinstance" = true) (hs : noStar x = true) (ha : PE X x (LBf X cl W (bo a (eval kt a)))) (ht : mTys G sc Ts ts = true) :
    PE X (.Call f [x, .Tuple ts j q] [] p) (LEf X cl W (eval kt (.isit a Ts))) := by
  obtain ⟨pos, rfl, hg, hdb, hnn⟩ := g.name hn
  refine (pe_callB call_isiT hg (g.bt _ hb) (by decide +kernel) (pa_cons ha (pa_cons (pe_tup (pa_tys g ht)) pa_nil (star_cons rfl)) (star_cons hs)) hnn hdb (star_cons hs) (by rw [star_cons rfl]; rfl)).imp fun σ H Q ⟨env, tab, r, A, q⟩ => ?_
  rw [eval_isit] at q
  refine ⟨env, tab, r, A, q.bind.mono fun x s q v H1 A1 v1 => ?_⟩
  split at q
  · rename_i e1 h1
    split at q
    · rename_i hlen
      obtain ⟨ev, he, q⟩ := q.ofO
      cases hc : anyT s.tab e1 Ts with
      | none => rw [hc] at he; cases he
      | some c =>
        rw [hc] at he
        cases he
        refine ⟨by rw [List.length_map]; exact Nat.le_of_lt (small1000 (by omega)), fun pa hpa => ?_⟩
        have A2 : AbsS X.K cl s.env σ r s.tab (upd H1 pa (.tup (Ts.map fun T => V.ty (tyS T)))) := (A1.map fun p A => A.junk hpa).sublist bR_sub
        obtain ⟨pp, sl, Z, al, AA⟩ := (A1.map fun p A => A.junk (o := .tup (Ts.map fun T => V.ty (tyS T))) hpa : AbsS X.K cl s.env σ (bR x v ++ r) s.tab _)
        have hm : (e1, v) ∈ pp ++ (bR x v ++ r) := bo_mem sl v1 h1 fun q hq => bR_mem_r hq
        have cls : ∀ Ts : List Ty, Paired ClsV (Ts.map fun T => V.ty (tyS T)) (Ts.map fun T => Value.type (tyS T)) := by
          intro Ts
          induction Ts with
          | nil => exact .nil
          | cons T Ts ih => exact .cons (.ty _) ih
        rcases anyT_head hc with e | ⟨T, c0, hT⟩
        · subst e
          exact absurd hlen.1 (by simp)
        · obtain ⟨t, k1, k2⟩ := isT_ty AA hm hT
          exact ⟨v, pa, _, .type t, _, c, rfl, upd_same, cls Ts, k1, anyT_ok k2 hc, q _ _ (A2.addBl c)⟩
    · exact q.elim
  · exact q.elim
end
end SH
namespace SH
open PySem PySem.Spec L2 PyProof.Rows
section
variable {G : Gs} {cl : Str → Addr} {kt : Kt} {lv : Nat} {N : List Str}
theorem Gd.bor {X : Cx} {sc tsc : Scope} (g : Gd G cl kt lv N X sc tsc) {e : Ex} {a : Expr} (h : mE G N sc e a = true) : ∀ i, e = .bor i → ∃ y pos, a = .Name y pos ∧ X.N[i]? = some y ∧ Vis X.env.scope y ∧ (y == ("__debug__" : Str)) = false ∧ (y == ("__classdict__" : Str)) = false := by
  intro i he
  subst he
  exact g.mvar h
theorem t_stuck {X : Cx} {W : WX} {x : Expr} {f : S → R Ev} (h : ∀ s, tsf f s = .st) : PT X x (LTf X cl W (tsf f)) := ⟨fun pins s σ H Q I ⟨env, tab, r, A, q⟩ => by
  rw [h] at q
  exact q.elim⟩
theorem t_share {X : Cx} {W : WX} {x : Expr} {a : Ex} (ha : PT X x (LTf X cl W (tsf (eval kt a)))) : PT X x (LTf X cl W (tsf (eval kt (.share a)))) := by
  refine ha.imp fun σ H Q ⟨env, tab, r, A, q⟩ => ⟨env, tab, r, A, tsf_post ?_⟩
  have q := tsf_inv q
  rw [eval_share] at q
  refine q.bind.mono fun x s q => ?_
  split at q
  · obtain ⟨c, hc, _⟩ := q
    cases hc
  · obtain ⟨c, hc, _⟩ := q
    cases hc
  · exact q.elim
theorem t_ite {X : Cx} {W : WX} {x x' x'' : Expr} {a b c : Ex} {p : Pos} (hc : PT X x (LTf X cl W (tsf (eval kt c)))) (ha : PT X x' (LTf X cl W (tsf (eval kt a)))) (hb : PT X x'' (LTf X cl W (tsf (eval kt b)))) : PT X (.IfExp x x' x'' p) (LTf X cl W (tsf (eval kt (.ite_ c a b)))) := by
  refine ⟨fun pins s σ H Q I ⟨env, tab, r, A, q⟩ => ?_⟩
  have q := tsf_inv q
  rw [eval_ite] at q
  refine isTrue_IfExp (thn (hc.run pins s σ H (fun d H1 => if d = true then LTf X cl W (tsf (eval kt a)) σ H1 Q else LTf X cl W (tsf (eval kt b)) σ H1 Q) I ⟨env, tab, r, A, tsf_post (q.bind.mono fun x s q => ?_)⟩) fun d s1 ⟨H1, I1, q1⟩ => ?_)
  · split at q
    · rename_i h
      refine ⟨true, h, fun H1 A1 => ?_⟩
      dsimp only
      rw [if_pos rfl]
      exact ⟨s.env, s.tab, r, A1, tsf_post q⟩
    · rename_i h
      refine ⟨false, h, fun H1 A1 => ?_⟩
      dsimp only
      rw [if_neg (by decide)]
      exact ⟨s.env, s.tab, r, A1, tsf_post q⟩
    · exact q.elim
  · cases d with
    | true => exact ha.run pins s1 σ H1 Q I1 q1
    | false => exact hb.run pins s1 σ H1 Q I1 q1
mutual
/-- EVERY TERM: the text that it was matched with is worth what the evaluator says -/
theorem sE : ∀ (e : Ex) {X : Cx} {sc tsc : Scope} {W : WX} {a : Expr}, Gd G cl kt lv N X sc tsc → Takes X W → mE G N sc e a = true → PE X a (LEf X cl W (eval kt e))
  | .var i, X, sc, tsc, W, a, g, tk, h => e_var g h
  | .mv i, X, sc, tsc, W, a, g, tk, h => e_mv g h
  | .bor i, X, sc, tsc, W, a, g, tk, h => e_stuck fun s => rfl
  | .nop, X, sc, tsc, W, a, g, tk, h => e_stuck fun s => rfl
  | .non, X, sc, tsc, W, a, g, tk, h => by
    obtain ⟨j, p, rfl⟩ := iv_non h
    exact pe_non.imp fun σ H Q ⟨env, tab, r, A, q⟩ => q _ H (A.addD fun Z al => .non)
  | .bl b, X, sc, tsc, W, a, g, tk, h => by
    obtain ⟨j, p, rfl⟩ := iv_bl h
    exact pe_bl.imp fun σ H Q ⟨env, tab, r, A, q⟩ => q _ H (A.addBl b)
  | .int b, X, sc, tsc, W, a, g, tk, h => by
    obtain ⟨j, p, rfl⟩ := iv_int h
    exact pe_int.imp fun σ H Q ⟨env, tab, r, A, q⟩ => q _ H (A.addInt b)
  | .str b, X, sc, tsc, W, a, g, tk, h => by
    obtain ⟨j, p, rfl⟩ := iv_str h
    exact pe_str.imp fun σ H Q ⟨env, tab, r, A, q⟩ => q _ H (A.addD fun Z al => .str b)
  | .glob z, X, sc, tsc, W, a, g, tk, h => e_glob g (band (show (mName sc z a && G.con.contains z) = true from h)).1
  | .op o a b, X, sc, tsc, W, x, g, tk, h => by
    obtain ⟨a', b', p, rfl, h1, h2⟩ := iv_op h
    exact e_op g (pe_lb (sE a g tk h1) (g.var h1)) (pe_lb (sE b g tk h2) (g.var h2))
  | .neg a, X, sc, tsc, W, x, g, tk, h => by
    obtain ⟨a', p, rfl, h1⟩ := iv_neg h
    exact e_neg (sE a g tk h1)
  | .cmp o a b, X, sc, tsc, W, x, g, tk, h => by
    obtain ⟨a', b', p, rfl, h1, h2, h3⟩ := iv_cmp h
    exact e_cmp g (pe_lb (sE a g tk h2) (g.var h2)) (pe_lb (sE b g tk h3) (g.var h3)) h1
  | .chain o1 o2 a b c, X, sc, tsc, W, x, g, tk, h => by
    obtain ⟨a', b', c', p, rfl, h1, h2, h3, h4, h5⟩ := iv_chain h
    exact e_chain g (pe_lb (sE a g tk h3) (g.var h3)) (sE b g tk h4) (pe_lb (sE c g tk h5) (g.var h5)) h1 h2
  | .isN n a, X, sc, tsc, W, x, g, tk, h => by
    obtain ⟨a', j, p, p', rfl, h1⟩ := iv_isN h
    exact e_isN (sE a g tk h1)
  | .and_ a b, X, sc, tsc, W, x, g, tk, h => by
    obtain ⟨a', b', r, p, rfl, h1, h2⟩ := iv_and h
    rcases h2 with ⟨rfl, h2⟩ | h2
    · exact e_and (sE a g tk h1) (pe_one (sE b g tk h2))
    · exact e_and (sE a g tk h1) (sE b g tk h2)
  | .or_ a b, X, sc, tsc, W, x, g, tk, h => by
    obtain ⟨a', b', r, p, rfl, h1, h2⟩ := iv_or h
    rcases h2 with ⟨rfl, h2⟩ | h2
    · exact e_or (sE a g tk h1) (pe_one (sE b g tk h2))
    · exact e_or (sE a g tk h1) (sE b g tk h2)
  | .not_ a, X, sc, tsc, W, x, g, tk, h => by
    obtain ⟨a', p, rfl, h1⟩ := iv_not h
    exact e_not (sE a g tk h1)
  | .ite_ c a b, X, sc, tsc, W, x, g, tk, h => by
    obtain ⟨c', a', b', p, rfl, h1, h2, h3⟩ := iv_ite h
    exact e_ite (sT c g tk h1) (sE a g tk h2) (sE b g tk h3)
  | .tup es, X, sc, tsc, W, x, g, tk, h => by
    obtain ⟨es', j, p, rfl, h1⟩ := iv_tup h
    exact e_tup (sEs es g tk h1)
  | .lst es, X, sc, tsc, W, x, g, tk, h => by
    obtain ⟨es', p, rfl, h1⟩ := iv_lst h
    exact e_lst (sEs es g tk h1)
  | .ix a b, X, sc, tsc, W, x, g, tk, h => by
    obtain ⟨a', b', p, rfl, h1, h2, h3⟩ := iv_ix h
    exact e_ix (pe_lb (sE a g tk h2) (g.var h2)) (pe_lb (sE b g tk h3) (g.var h3)) h1
  | .sl a lo hi, X, sc, tsc, W, x, g, tk, h => by
    obtain ⟨a', lo', hi', p, p', rfl, h1, h2, h3⟩ := iv_sl h
    exact e_sl (pe_lb (sE a g tk h1) (g.var h1)) (po_of h2 fun x hx => sE lo g tk hx) (po_of h3 fun x hx => sE hi g tk hx)
  | .call f es, X, sc, tsc, W, x, g, tk, h => by
    obtain ⟨e, es', p, rfl, h1, h2, h3⟩ := iv_call h
    exact e_call g tk h1 h2 (sEs es g tk h3) h3
  | .bi b es, X, sc, tsc, W, x, g, tk, h => by
    obtain ⟨e, es', p, rfl, h1, h2, h3, h4⟩ := iv_bi h
    exact e_bi g h1 h2 (sBs es g tk h3) h3 h4
  | .isi a T, X, sc, tsc, W, x, g, tk, h => by
    obtain ⟨e, a', t', p, rfl, h1, h2, h3, h4, h5, h6, h7⟩ := iv_isi h
    exact e_isi g h1 h2 h3 (pe_lb (sE a g tk h4) (g.var h4)) h5 h6 h7
  | .isit a Ts, X, sc, tsc, W, x, g, tk, h => by
    obtain ⟨e, a', ts, j, q, p, rfl, h1, h2, h3, h4, h5⟩ := iv_isit h
    exact e_isit g h1 h2 h3 (pe_lb (sE a g tk h4) (g.var h4)) h5
  | .comp own tgt it c e, X, sc, tsc, W, x, g, tk, h => by
    obtain ⟨e', tg, iter, ifs, scope, p, rfl, h1, h2, h3, h4, h5, h6⟩ := iv_comp h
    exact e_comp g h1 h2 h3 h4 (sI it g tk h4) h5 (fun X' c' g' hc => sT c g' takes0 hc) fun X' g' => sE e g' takes0 h6
  | .pop i k, X, sc, tsc, W, x, g, tk, h => by
    obtain ⟨o, ap, k', p, rfl, h1, h2, h3, h4⟩ := iv_pop h
    exact e_pop g h1 h2 h3 (sE k g tk h4)
  | .share e, X, sc, tsc, W, x, g, tk, h => e_share (sE e g tk h)
/-- .. as a test -/
theorem sT : ∀ (e : Ex) {X : Cx} {sc tsc : Scope} {W : WX} {a : Expr}, Gd G cl kt lv N X sc tsc → Takes X W → mE G N sc e a = true → PT X a (LTf X cl W (tsf (eval kt e)))
  | .cmp o a b, X, sc, tsc, W, x, g, tk, h => by
    obtain ⟨a', b', p, rfl, h1, h2, h3⟩ := iv_cmp h
    exact t_cmp g (pe_lb (sE a g tk h2) (g.var h2)) (pe_lb (sE b g tk h3) (g.var h3)) h1
  | .chain o1 o2 a b c, X, sc, tsc, W, x, g, tk, h => by
    obtain ⟨a', b', c', p, rfl, h1, h2, h3, h4, h5⟩ := iv_chain h
    exact t_chain g (pe_lb (sE a g tk h3) (g.var h3)) (sE b g tk h4) (pe_lb (sE c g tk h5) (g.var h5)) h1 h2
  | .isN n a, X, sc, tsc, W, x, g, tk, h => by
    obtain ⟨a', j, p, p', rfl, h1⟩ := iv_isN h
    exact t_isN (sE a g tk h1)
  | .and_ a b, X, sc, tsc, W, x, g, tk, h => by
    obtain ⟨a', b', r, p, rfl, h1, h2⟩ := iv_and h
    rcases h2 with ⟨rfl, h2⟩ | h2
    · exact (t_and (sT a g tk h1) (pw_and1 (sT b g tk h2))).pt
    · exact (t_and (sT a g tk h1) (pw_of_pt (sT b g tk h2))).pt
  | .or_ a b, X, sc, tsc, W, x, g, tk, h => by
    obtain ⟨a', b', r, p, rfl, h1, h2⟩ := iv_or h
    rcases h2 with ⟨rfl, h2⟩ | h2
    · exact (t_or (sT a g tk h1) (pw_or1 (sT b g tk h2))).pt
    · exact (t_or (sT a g tk h1) (pw_of_pt (sT b g tk h2))).pt
  | .not_ a, X, sc, tsc, W, x, g, tk, h => by
    obtain ⟨a', p, rfl, h1⟩ := iv_not h
    exact t_not (sT a g tk h1)
  | .ite_ c a b, X, sc, tsc, W, x, g, tk, h => by
    obtain ⟨c', a', b', p, rfl, h1, h2, h3⟩ := iv_ite h
    exact t_ite (sT c g tk h1) (sT a g tk h2) (sT b g tk h3)
  | .share e, X, sc, tsc, W, x, g, tk, h => t_share (sT e g tk h)
  | .mv i, X, sc, tsc, W, x, g, tk, h => by
    obtain ⟨y, pos, rfl, _⟩ := g.mvar h
    exact pt_of (e_mv g h) rfl
  | .bor i, X, sc, tsc, W, x, g, tk, h => t_stuck fun s => rfl
  | .nop, X, sc, tsc, W, x, g, tk, h => t_stuck fun s => rfl
  | .non, X, sc, tsc, W, x, g, tk, h => t_stuck fun s => rfl
  | .int i, X, sc, tsc, W, x, g, tk, h => t_stuck fun s => rfl
  | .str i, X, sc, tsc, W, x, g, tk, h => t_stuck fun s => rfl
  | .bl b, X, sc, tsc, W, a, g, tk, h => by
    obtain ⟨j, p, rfl⟩ := iv_bl h
    exact pt_of (pe_bl.imp fun σ H Q ⟨env, tab, r, A, q⟩ => q _ H (A.addBl b)) rfl
  | .glob z, X, sc, tsc, W, a, g, tk, h => by
    have hz := (band (show (mName sc z a && G.con.contains z) = true from h)).1
    obtain ⟨pos, rfl, _⟩ := g.name hz
    exact pt_of (e_glob g hz) rfl
  | .op o a b, X, sc, tsc, W, x, g, tk, h => by
    obtain ⟨a', b', p, rfl, h1, h2⟩ := iv_op h
    exact pt_of (e_op g (pe_lb (sE a g tk h1) (g.var h1)) (pe_lb (sE b g tk h2) (g.var h2))) rfl
  | .neg a, X, sc, tsc, W, x, g, tk, h => by
    obtain ⟨a', p, rfl, h1⟩ := iv_neg h
    exact pt_of (e_neg (sE a g tk h1)) rfl
  | .tup es, X, sc, tsc, W, x, g, tk, h => by
    obtain ⟨es', j, p, rfl, h1⟩ := iv_tup h
    exact pt_of (e_tup (sEs es g tk h1)) rfl
  | .lst es, X, sc, tsc, W, x, g, tk, h => by
    obtain ⟨es', p, rfl, h1⟩ := iv_lst h
    exact pt_of (e_lst (sEs es g tk h1)) rfl
  | .ix a b, X, sc, tsc, W, x, g, tk, h => by
    obtain ⟨a', b', p, rfl, h1, h2, h3⟩ := iv_ix h
    exact pt_of (e_ix (pe_lb (sE a g tk h2) (g.var h2)) (pe_lb (sE b g tk h3) (g.var h3)) h1) rfl
  | .sl a lo hi, X, sc, tsc, W, x, g, tk, h => by
    obtain ⟨a', lo', hi', p, p', rfl, h1, h2, h3⟩ := iv_sl h
    exact pt_of (e_sl (pe_lb (sE a g tk h1) (g.var h1)) (po_of h2 fun x hx => sE lo g tk hx) (po_of h3 fun x hx => sE hi g tk hx)) rfl
  | .isit a Ts, X, sc, tsc, W, x, g, tk, h => by
    obtain ⟨e, a', ts, j, q, p, rfl, h1, h2, h3, h4, h5⟩ := iv_isit h
    exact pt_of (e_isit g h1 h2 h3 (pe_lb (sE a g tk h4) (g.var h4)) h5) rfl
  | .comp own tgt it c e, X, sc, tsc, W, x, g, tk, h => by
    obtain ⟨e', tg, iter, ifs, scope, p, rfl, h1, h2, h3, h4, h5, h6⟩ := iv_comp h
    exact pt_of (e_comp g h1 h2 h3 h4 (sI it g tk h4) h5 (fun X' c' g' hc => sT c g' takes0 hc) fun X' g' => sE e g' takes0 h6) rfl
  | .pop i k, X, sc, tsc, W, x, g, tk, h => by
    obtain ⟨o, ap, k', p, rfl, h1, h2, h3, h4⟩ := iv_pop h
    exact pt_of (e_pop g h1 h2 h3 (sE k g tk h4)) rfl
  | .var i, X, sc, tsc, W, x, g, tk, h => by
    obtain ⟨y, pos, rfl, _⟩ := g.mvar h
    exact pt_of (e_var g h) rfl
  | .call f es, X, sc, tsc, W, x, g, tk, h => by
    obtain ⟨e, es', p, rfl, h1, h2, h3⟩ := iv_call h
    exact pt_of (e_call g tk h1 h2 (sEs es g tk h3) h3) rfl
  | .bi b es, X, sc, tsc, W, x, g, tk, h => by
    obtain ⟨e, es', p, rfl, h1, h2, h3, h4⟩ := iv_bi h
    exact pt_of (e_bi g h1 h2 (sBs es g tk h3) h3 h4) rfl
  | .isi a T, X, sc, tsc, W, x, g, tk, h => by
    obtain ⟨e, a', t', p, rfl, h1, h2, h3, h4, h5, h6, h7⟩ := iv_isi h
    exact pt_of (e_isi g h1 h2 h3 (pe_lb (sE a g tk h4) (g.var h4)) h5 h6 h7) rfl
theorem sEs : ∀ (es : Exs) {X : Cx} {sc tsc : Scope} {W : WX} {as : List Expr}, Gd G cl kt lv N X sc tsc → Takes X W → mEs G N sc es as = true → PA X as (LEsf X cl W (evals kt es))
  | .nil, X, sc, tsc, W, as, g, tk, h => by
    have e := iv_nil h
    subst e
    exact a_nil
  | .cons e r, X, sc, tsc, W, as, g, tk, h => by
    obtain ⟨a, as', rfl, h1, h2, h3⟩ := iv_cons h
    exact a_cons h1 (sE e g tk h2) (sEs r g tk h3)
theorem sBs : ∀ (es : Exs) {X : Cx} {sc tsc : Scope} {W : WX} {as : List Expr}, Gd G cl kt lv N X sc tsc → Takes X W → mEs G N sc es as = true → PA X as (LBsf X cl W (evbs kt es))
  | .nil, X, sc, tsc, W, as, g, tk, h => by
    have e := iv_nil h
    subst e
    exact b_nil
  | .cons e r, X, sc, tsc, W, as, g, tk, h => by
    obtain ⟨a, as', rfl, h1, h2, h3⟩ := iv_cons h
    exact b_cons h1 (pe_lb (sE e g tk h2) (g.var h2)) (sBs r g tk h3)
theorem sI : ∀ (it : Gen) {X : Cx} {sc tsc : Scope} {W : WX} {tg a : Expr}, Gd G cl kt lv N X sc tsc → Takes X W → mI G N sc tg it a = true → PI X tg a (LIf X cl W (evIt kt it))
  | .seq e, X, sc, tsc, W, tg, a, g, tk, h => by
    obtain ⟨h1, h2⟩ := band (show (noSet a && mE G N sc e a) = true from h)
    exact i_seq (pe_ls (sE e g tk h2) (g.bor h2))
  | .enum e, X, sc, tsc, W, tg, a, g, tk, h => by
    obtain ⟨f, a', p, rfl, h1, h2, h3, h4, h5⟩ := iv_enum h
    exact i_enum g h1 h2 h3 h4 (pe_ls (sE e g tk h5) (g.bor h5))
  | .zip e1 e2, X, sc, tsc, W, tg, a, g, tk, h => by
    obtain ⟨f, a', b', p, rfl, h1, h2, h3, h4, h5, h6, h7⟩ := iv_zip h
    exact i_zip g h1 h2 h3 h4 h5 (pe_ls (sE e1 g tk h6) (g.bor h6)) (pe_ls (sE e2 g tk h7) (g.bor h7))
  | .rng1 e, X, sc, tsc, W, tg, a, g, tk, h => by
    obtain ⟨f, a', p, rfl, h2, h3, h4, h5⟩ := iv_rng1 h
    exact i_rng1 g h2 h3 h4 (sE e g tk h5)
  | .rng2 e1 e2, X, sc, tsc, W, tg, a, g, tk, h => by
    obtain ⟨f, a', b', p, rfl, h2, h3, h4, h5, h6, h7⟩ := iv_rng2 h
    exact i_rng2 g h2 h3 h4 h5 (sE e1 g tk h6) (sE e2 g tk h7)
end
end
end SH

end
section
set_option Elab.async false
set_option linter.all false
set_option maxRecDepth 100000
set_option maxHeartbeats 4000000
namespace SH
open PySem PySem.Spec L2 PyProof.Rows

/-! ### does a statement read as one of ours -/
def isComp : Expr → Bool
  | .ListComp .. => true
  | .SetComp .. => true
  | .DictComp .. => true
  | _ => false
def noTupE : Expr → Bool
  | .Tuple .. => false
  | _ => true
def noCallE : Expr → Bool
  | .Call .. => false
  | _ => true
def swF (p : Pos) (v : Expr) : Bool := !isComp v || !(p.line == v.pos.line)
def swT (sc : Scope) (t : Str) (p : Pos) (v : Expr) : Bool := match v with
  | .ListComp _ _ s q => decide (sc.names.lookup t = some .local) && (p.line == q.line) && !(s.names.any fun (n, k) => n == t && (k == .local || k == .cell))
  | _ => false
def mNs (N : List Str) (sc : Scope) : List Nat → List Expr → Bool
  | [], [] => true
  | i :: is, e :: es => (match e with
    | .Name x _ => decide (N[i]? = some x) && decide (sc.names.lookup x = some .local)
    | _ => false) && mNs N sc is es
  | _, _ => false
def lineOf : Expr → Nat := fun e => e.pos.line
/-- what may stand in an except suite -/
def hotE : Ex → Bool
  | .var _ => true
  | .mv _ => true
  | .non => true
  | .bl _ => true
  | .int _ => true
  | .str _ => true
  | _ => false
def hotS : Sm → Bool
  | .asg g e => (match g with
    | .name _ => hotE e
    | _ => false)
  | .ret e => hotE e
  | .retN => true
  | .pass => true
  | .brk => true
  | .cont => true
  | _ => false
def hotSs : Sms → Bool
  | .nil => true
  | .cons s r => hotS s && hotSs r
def isAug : Bop → Bool
  | .add => true
  | .sub => true
  | _ => false
def isNilH : Hds → Bool
  | .nil => true
  | _ => false
def oneAs : Hds → Bool
  | .cons _ (some _) _ .nil => true
  | _ => false
def allUn : Hds → Bool
  | .nil => true
  | .cons _ none _ r => allUn r
  | _ => false
/-- stored from the right -/
def parS (ts vs : List Expr) : Bool := (match ts with
  | [t1, t2] => t1.pos.line == t2.pos.line
  | [t1, t2, t3] => (t1.pos.line == t2.pos.line) && (t1.pos.line == t3.pos.line)
  | _ => false) && !(vs.all (foldedForSure 8)) && !(vs.all (constantsAlone 8))
/-- stored one by one off the tuple -/
def parT (ts vs : List Expr) : Bool := !(ts.length == 2 || ts.length == 3) || vs.all (foldedForSure 8)
mutual
def mS (G : Gs) (N : List Str) (sc : Scope) : Sm → Stmt → Bool
  | .asg g e, x => (match g, x with
    | .name i, .Assign [.Name t p] v _ => decide (N[i]? = some t) && loc sc t && mE G N sc e v && (swF p v || swT sc t p v)
    | .tup gs, .Assign [t] v _ => isTup t && mTg N sc (.tup gs) t && noTupE v && mE G N sc e v
    | _, _ => false)
  | .par is es, x => (match x with
    | .Assign [.Tuple ts _ _] (.Tuple vs _ _) _ => mNs N sc is ts && decide (is.Nodup) && mEs G N sc es vs && decide (ts.length = vs.length) && decide (vs.length ≤ 1000) && (parS ts vs || parT ts vs)
    | _ => false)
  | .aug i o e, x => (match x with
    | .AugAssign (.Name t _) o' v _ => decide (N[i]? = some t) && loc sc t && decide (opOf o = o') && isAug o && mE G N sc e v
    | _ => false)
  | .setIx b k e, x => (match x with
    | .Assign [.Subscript b' k' _] v _ => noSl k' && mE G N sc b b' && mE G N sc k k' && mE G N sc e v
    | _ => false)
  | .augIx b k o e, x => (match x with
    | .AugAssign (.Subscript b' k' _) o' v _ => noSl k' && decide (opOf o = o') && isAug o && mE G N sc b b' && mE G N sc k k' && mE G N sc e v
    | _ => false)
  | .append b e, x => (match x with
    | .Expr (.Call (.Attribute o a ap) [v] [] p) _ => decide (a = ("append" : Str)) && noCallE o && noStar v && (ap.endLine == p.line) && mE G N sc b o && mE G N sc e v
    | _ => false)
  | .expr e, x => (match x with
    | .Expr v _ => !isComp v && mE G N sc e v
    | _ => false)
  | .ret e, x => (match x with
    | .Return (some v) _ => mE G N sc e v
    | _ => false)
  | .retN, x => (match x with
    | .Return none _ => true
    | _ => false)
  | .iff c a b, x => (match x with
    | .If c' a' b' _ => mE G N sc c c' && mSs G N sc a a' && mSs G N sc b b'
    | _ => false)
  | .for_ g it body, x => (match x with
    | .For tg iter b' [] _ => mTg N sc g tg && mI G N sc tg it iter && mSs G N sc body b'
    | _ => false)
  | .while_ c body, x => (match x with
    | .While c' b' [] _ => mE G N sc c c' && mSs G N sc body b'
    | _ => false)
  | .raise C m, x => (match x with
    | .Raise (some (.Call f [.Constant (.str m') _ _] [] _)) none _ => mName sc C f && G.exc.contains C && decide (m = m')
    | _ => false)
  | .try_ body hs, x => (match x with
    | .Try b' hs' [] [] _ => !hs'.isEmpty && (oneAs hs || allUn hs) && mSs G N sc body b' && mHs G N sc hs hs'
    | _ => false)
  | .pass, x => (match x with
    | .Pass _ => true
    | .Expr (.Constant (.str _) _ _) _ => true
    | _ => false)
  | .brk, x => (match x with
    | .Break _ => true
    | _ => false)
  | .cont, x => (match x with
    | .Continue _ => true
    | _ => false)
def mSs (G : Gs) (N : List Str) (sc : Scope) : Sms → List Stmt → Bool
  | .nil, x => x.isEmpty
  | .cons s r, x => (match x with
    | a :: as => mS G N sc s a && mSs G N sc r as
    | _ => false)
/-- the suites: a few plain statements -/
def mHs (G : Gs) (N : List Str) (sc : Scope) : Hds → List ExceptHandler → Bool
  | .nil, x => x.isEmpty
  | .cons C nm body r, x => (match x with
    | .ExceptHandler (some f) nm' b' _ :: hs => mName sc C f && G.exc.contains C && !b'.isEmpty && hotSs body && mSs G N sc body b' && (match nm, nm' with
      | none, none => mHs G N sc r hs
      | some i, some n => isNilH r && hs.isEmpty && decide (N[i]? = some n) && decide (sc.names.lookup n = some .local)
      | _, _ => false)
    | _ => false)
end
end SH

end
section
set_option Elab.async false
set_option linter.all false
set_option maxRecDepth 100000
set_option maxHeartbeats 4000000
namespace SH
open PySem PySem.Spec L2 PyProof.Rows

/-! ### what a statement's end asks -/
section
variable (X : Cx) (cl : Str → Addr) (W : WX)
def PostF (D : Ends) (r : Rt) (res : F) : Prop := match res with
  | .nx s => ∀ σ H, AbsS X.K cl s.env σ r s.tab H → D.nx σ H
  | .rt e s => ∀ v H, Abs X.K cl ((e, v) :: r) s.tab H → D.rt v H
  | .bk s => ∀ σ H, AbsS X.K cl s.env σ r s.tab H → D.bk σ H
  | .ct s => ∀ σ H, AbsS X.K cl s.env σ r s.tab H → D.ct σ H
  | .ex x s => ∀ C σ H, X.mg x = some (.ref C) → AbsS X.K cl s.env σ r s.tab H → W (.ref C) none σ H
  | .st => False
def LQf (f : S → F) : TS := fun D σ H => ∃ env tab r, AbsS X.K cl env σ r tab H ∧ PostF X cl W D r (f ⟨env, tab⟩)
end
section
variable {X : Cx} {cl : Str → Addr} {W : WX} {σ : L2.St} {r r' R0 : Rt} {α β : Type} {H : Hp} {D : Ends} {env : Env} {tab : List Ob} {v : V} {xs : List SH.D} {i : Nat} {st : Stmt}
theorem PostF.bindF {res : R α} {f : α → S → F} (h : PostF X cl W D r (res.bindF f)) : PostR X cl W σ r res fun a s => PostF X cl W D r (f a s) := by
  cases res with
  | ok a s => exact h
  | ex x s => exact fun C H' hC A => h C _ H' hC A
  | st => exact h
theorem _root_.L2.PS.imp {t t' : TS} (h : PS X st t) (k : ∀ D σ H, t' D σ H → t D σ H) : PS X st t' := ⟨fun pins s σ H D I q => h.run pins s σ H D I (k D σ H q)⟩
theorem _root_.L2.PSs.imp {st : List Stmt} {t t' : TS} (h : PSs X st t) (k : ∀ D σ H, t' D σ H → t D σ H) : PSs X st t' := ⟨fun pins s σ H D I q => h.run pins s σ H D I (k D σ H q)⟩
theorem AbsS.abs (A : AbsS X.K cl env σ r tab H) : Abs X.K cl r tab H := by
  obtain ⟨p, s, A⟩ := A
  exact A.sublist (List.sublist_append_right p r)
/-- a slot's own list is written -/
theorem setO_ok (A : AbsS X.K cl env σ r tab H) (he : env[i]? = some (some (.o xs))) (hv : σ[i]? = some (some v)) : ∃ a vs Z al, v = .ref a ∧ H a = some (.lst vs) ∧ Rps X.K Z al xs vs ∧ (∀ d w, (Ev.d d, w) ∈ r → Rp X.K Z al d w) ∧
    ∀ ys us, Rps X.K Z al ys us → AbsS X.K cl (env.set i (some (.o ys))) σ r tab (upd H a (.lst us)) := by
  obtain ⟨p, s, Z, al, A⟩ := A
  obtain ⟨v', P, B, h1, rfl, h2, _⟩ := s.at_some he
  rw [hv] at h1
  cases h1
  have A1 : AbsAt X.K cl Z al ((Ev.o xs, v) :: (P ++ (B ++ r))) tab H := A.perm (by
    rw [List.append_assoc, List.cons_append]
    exact List.perm_middle.symm)
  have rt := A1.roots _ List.mem_cons_self
  cases rt with
  | @o _ vs a e1 e2 =>
    refine ⟨a, vs, Z, al, rfl, e1, e2, fun d w hm => A1.rp (by simp [hm]), fun ys us hy => ⟨_, h2 _, ?_⟩⟩
    refine (A1.setLst hy).abs.perm ?_
    rw [List.append_assoc, List.cons_append]
    exact List.perm_middle
/-- a shared list is written -/
theorem setT_ok {n : Nat} (A : AbsS X.K cl env σ r tab H) (hm : ∀ p, SlotR env σ p → (Ev.d (.ref n), v) ∈ p ++ r) (ht : tab[n]? = some (.lst xs)) : ∃ a vs Z al, v = .ref a ∧ H a = some (.lst vs) ∧ Rps X.K Z al xs vs ∧ (∀ d w, (Ev.d d, w) ∈ r → Rp X.K Z al d w) ∧
    ∀ ys us, Rps X.K Z al ys us → AbsS X.K cl env σ r (tab.set n (.lst ys)) (upd H a (.lst us)) := by
  obtain ⟨p, s, Z, al, A⟩ := A
  have rt := A.rp (hm p s)
  cases rt with
  | @ref _ a e1 =>
    cases A.obj e1 ht with
    | @lst _ vs e3 e4 =>
      refine ⟨a, vs, Z, al, rfl, e3, e4, fun d w hm => A.rp (by simp [hm]), fun ys us hy => ⟨p, s, ?_⟩⟩
      exact (A.setTab e1 (.lst (by simp [upd]) hy)).abs
theorem putL_ok {x : Bo} {s : S} {f : List SH.D → Option (List SH.D)} (A : AbsS X.K cl s.env σ R0 s.tab H) (hb : ∀ q ∈ bR x v, q ∈ R0) (bv : bV x v σ) (hr : r.Sublist R0) (q : PostF X cl W D r (putL x s f)) :
    ∃ a vs xs ys Z al, v = .ref a ∧ H a = some (.lst vs) ∧ Rps X.K Z al xs vs ∧ f xs = some ys ∧ (∀ d w, (Ev.d d, w) ∈ R0 → Rp X.K Z al d w) ∧ ∀ us, Rps X.K Z al ys us → D.nx σ (upd H a (.lst us)) := by
  unfold putL at q
  split at q
  · rename_i i
    split at q
    · rename_i xs he
      split at q
      · rename_i ys hf
        obtain ⟨a, vs, Z, al, e1, e2, e3, e4, e5⟩ := setO_ok A (slot_get he) bv
        exact ⟨a, vs, xs, ys, Z, al, e1, e2, e3, hf, e4, fun us hu => q σ _ ((e5 ys us hu).sublist hr)⟩
      · exact q.elim
    · rename_i n he
      split at q
      · rename_i xs ht
        split at q
        · rename_i ys hf
          obtain ⟨a, vs, Z, al, e1, e2, e3, e4, e5⟩ := setT_ok A (fun p sp => List.mem_append_left _ (AbsS.mem sp (slot_get he) bv)) ht
          exact ⟨a, vs, xs, ys, Z, al, e1, e2, e3, hf, e4, fun us hu => q σ _ ((e5 ys us hu).sublist hr)⟩
        · exact q.elim
      · exact q.elim
    · exact q.elim
  · rename_i n
    split at q
    · rename_i xs ht
      split at q
      · rename_i ys hf
        obtain ⟨a, vs, Z, al, e1, e2, e3, e4, e5⟩ := setT_ok (v := v) A (fun p sp => List.mem_append_right _ (hb _ (by simp [bR]))) ht
        exact ⟨a, vs, xs, ys, Z, al, e1, e2, e3, hf, e4, fun us hu => q σ _ ((e5 ys us hu).sublist hr)⟩
      · exact q.elim
    · exact q.elim
  · exact q.elim
end

/-! ### a body's context -/
structure Gst (G : Gs) (cl : Str → Addr) (kt : Kt) (lv : Nat) (N : List Str) (X : Cx) (sc : Scope) : Prop where
  g : Gd G cl kt lv N X sc sc
  kind : X.env.scope.kind = .function
  stk : X.stack = X.env :: X.outer
  frm : X.env.frame = some X.env.locals
  exc : ∀ x, G.exc.contains x = true → ∃ C, X.mg x = some (.ref C) ∧ PySem.W.keepIn X.K (.ref C) = true ∧ PySem.W.excIn X.K C He.veBase "ValueError.__new__" = true ∧ Raises X (.ref C)
  sub : ∀ x C b, kt.sub x C = some b → ∃ a c, X.mg x = some (.ref a) ∧ X.mg C = some (.ref c) ∧ PySem.W.exmOne X.K (.ref a) (.ref c) = some b
section
variable {G : Gs} {cl : Str → Addr} {kt : Kt} {lv : Nat} {N : List Str} {X : Cx} {sc tsc : Scope} {W : WX} {a b c : Ex} {x x' x'' : Expr} {pos : Pos} {i : Nat} {t : Str}
theorem Gd.tr (g : Gd G cl kt lv N X sc tsc) (pn : List (Addr × Obj)) (xe : Value → Shared → Prop) : Gd G cl kt lv N (X.tr pn xe) sc tsc := ⟨g.hN, g.nd, g.hsc, g.calm, g.room, g.tgt, g.bt, g.con, g.fns⟩
theorem Gst.tr (g : Gst G cl kt lv N X sc) (pn : List (Addr × Obj)) (xe : Value → Shared → Prop) : Gst G cl kt lv N (X.tr pn xe) sc := ⟨g.g.tr pn xe, g.kind, g.stk, g.frm, g.exc, g.sub⟩
theorem Gst.block (g : Gst G cl kt lv N X sc) : X.env.blockKind = .function := by
  unfold Env.blockKind
  rw [g.kind]
  rfl
theorem sw_plain {v : Expr} {t : Option Expr} {l : Nat} {env : PySem.Env} (h : isComp v = false) : swapsWith v t l env = pure false := by
  cases v <;> first | rfl | cases h
theorem sw_line {v : Expr} {t : Str} {p : Pos} {l : Nat} {env : PySem.Env} (h : swF p v = true) : swapsWith v (some (.Name t p)) l env = pure false := by
  unfold swF at h
  cases hc : isComp v with
  | false => exact sw_plain hc
  | true =>
    rw [hc] at h
    have hl : (p.line == v.pos.line) = false := by simpa using h
    cases v <;> first | (cases hc; done) | skip
    all_goals
      unfold swapsWith
      simp only [hl, Bool.and_false, Bool.false_and]
theorem sw_sub {v o k : Expr} {p : Pos} {l : Nat} {env : PySem.Env} : swapsWith v (some (.Subscript o k p)) l env = pure false := by
  cases v <;> rfl
theorem sws_no {v o k : Expr} {p : Pos} {env : PySem.Env} : swappedStores [.Subscript o k p] v env = pure none := by
  cases v <;> rfl
/-- a name is stored -/
theorem s_name {e : Ex} {spos : Pos} (h : PS X (.Assign [.Name t pos] x' spos) (tAsg (LEf X cl W (eval kt e)) (gName i))) : PS X (.Assign [.Name t pos] x' spos) (LQf X cl W (exec kt (.asg (.name i) e))) := by
  refine h.imp fun D σ H ⟨env, tab, r, A, q⟩ => ?_
  rw [exec_asg] at q
  refine ⟨env, tab, r, A, q.bindF.mono fun x s q v H1 A1 => ?_⟩
  have q : PostF X cl W D r (if i < s.env.length then .nx { s with env := s.env.set i (some x) } else .st) := q
  split at q
  · rename_i hl
    exact q _ _ (A1.store hl)
  · exact q.elim
theorem share_imp {σ : L2.St} {H : Hp} {Q : VK} : LEf X cl W (eval kt (.share a)) σ H Q → LEf X cl W (eval kt a) σ H Q := fun ⟨env, tab, r, A, q⟩ => by
  rw [eval_share] at q
  refine ⟨env, tab, r, A, q.bind.mono fun x s q v H1 A1 => ?_⟩
  split at q
  · rename_i xs
    refine q _ H1 (A1.front fun p ⟨Z, al, AA⟩ => ?_)
    have h := AA.roots (Ev.o xs, v) List.mem_cons_self
    cases h with
    | o e1 e2 => exact ⟨Z, _, AA.share rfl (.lst e1 e2)⟩
  · rename_i ks xs
    refine q _ H1 (A1.front fun p ⟨Z, al, AA⟩ => ?_)
    have h := AA.roots (Ev.od ks xs, v) List.mem_cons_self
    cases h with
    | od e1 e2 e3 => exact ⟨Z, _, AA.share rfl (.dic e1 e2 e3)⟩
  · exact q.elim
theorem sw_comp {e' : Expr} {gs : List Comprehension} {scope : Scope} {p py : Pos} {y : Str} {l : Nat} (g : Gst G cl kt lv N X sc) (h : swT sc y py (.ListComp e' gs scope p) = true) : X.env.scope.names.lookup y = some .local ∧ swapsWith (.ListComp e' gs scope p) (some (.Name y py)) l X.env = pure true := by
  obtain ⟨h1, h3⟩ := band (show (decide (sc.names.lookup y = some .local) && (py.line == p.line) && !(scope.names.any fun (n, k) => n == y && (k == .local || k == .cell))) = true from h)
  obtain ⟨h1, h2⟩ := band h1
  have hl : X.env.scope.names.lookup y = some .local := by rw [g.g.hsc]; exact of_decide_eq_true h1
  exact ⟨hl, sw_true g.kind hl h2 (by simpa using h3)⟩
/-- name = [..] on one line -/
theorem s_setC (g : Gst G cl kt lv N X sc) (tk : Takes X W) (hi : X.N[i]? = some t) {py spos p : Pos} {e' : Expr} {gs : List Comprehension} {scope : Scope} (hs : swT sc t py (.ListComp e' gs scope p) = true) : ∀ (e : Ex), mE G N sc e (.ListComp e' gs scope p) = true →
    PS X (.Assign [.Name t py] (.ListComp e' gs scope p) spos) (tAsg (LEf X cl W (eval kt e)) (gName i))
  | .comp own tgt it c e, h => by
    obtain ⟨hl, hsw⟩ := sw_comp (l := spos.line) g hs
    obtain ⟨e2, tg, iter, ifs, sc2, p2, e0, h1, h2, h3, h4, h5, h6⟩ := iv_comp h
    cases e0
    exact ps_comp g.g hi hl hsw h1 h2 h3 h4 (sI it g.g tk h4) h5 (fun X' c' g' hc => sT c g' takes0 hc) fun X' g' => sE e g' takes0 h6
  | .share a, h => (s_setC g tk hi hs a h).imp fun D σ H q => share_imp q
  | .var _, h => absurd h Bool.false_ne_true
  | .mv _, h => absurd h Bool.false_ne_true
  | .bor _, h => absurd h Bool.false_ne_true
  | .non, h => absurd h Bool.false_ne_true
  | .bl _, h => absurd h Bool.false_ne_true
  | .int _, h => absurd h Bool.false_ne_true
  | .str _, h => absurd h Bool.false_ne_true
  | .glob _, h => absurd h Bool.false_ne_true
  | .op _ _ _, h => absurd h Bool.false_ne_true
  | .neg _, h => absurd h Bool.false_ne_true
  | .cmp _ _ _, h => absurd h Bool.false_ne_true
  | .chain _ _ _ _ _, h => absurd h Bool.false_ne_true
  | .isN _ _, h => absurd h Bool.false_ne_true
  | .and_ _ _, h => absurd h Bool.false_ne_true
  | .or_ _ _, h => absurd h Bool.false_ne_true
  | .not_ _, h => absurd h Bool.false_ne_true
  | .ite_ _ _ _, h => absurd h Bool.false_ne_true
  | .tup _, h => absurd h Bool.false_ne_true
  | .lst _, h => absurd h Bool.false_ne_true
  | .ix _ _, h => absurd h Bool.false_ne_true
  | .sl _ _ _, h => absurd h Bool.false_ne_true
  | .nop, h => absurd h Bool.false_ne_true
  | .call _ _, h => absurd h Bool.false_ne_true
  | .bi _ _, h => absurd h Bool.false_ne_true
  | .isi _ _, h => absurd h Bool.false_ne_true
  | .isit _ _, h => absurd h Bool.false_ne_true
  | .pop _ _, h => absurd h Bool.false_ne_true
/-- name = e -/
theorem s_asgN (g : Gst G cl kt lv N X sc) (tk : Takes X W) {e : Ex} {p spos : Pos} {v : Expr} (h1 : N[i]? = some t) (h2 : loc sc t = true) (h3 : mE G N sc e v = true) (h4 : (swF p v || swT sc t p v) = true) :
    PS X (.Assign [.Name t p] v spos) (LQf X cl W (exec kt (.asg (.name i) e))) := by
  have hN : X.N[i]? = some t := by rw [g.g.hN]; exact h1
  obtain ⟨l1, l2⟩ := g.g.tgt t h2
  refine s_name ?_
  rcases Bool.or_eq_true_iff.mp h4 with h4 | h4
  · exact ps_set (by rw [g.g.hN]; exact g.g.nd) hN l1 (sE e g.g tk h3) (sw_line h4) l2
  · cases v with
    | ListComp e' gs scope q => exact s_setC g tk hN h4 e h3
    | _ => exact absurd h4 Bool.false_ne_true
/-- a, (b, c) = e -/
theorem s_asgT (g : Gst G cl kt lv N X sc) (tk : Takes X W) {e : Ex} {spos : Pos} {gs : Tgs} {tg v : Expr} (h0 : isTup tg = true) (h1 : mTg N sc (.tup gs) tg = true) (h2 : noTupE v = true) (h3 : mE G N sc e v = true) :
    PS X (.Assign [tg] v spos) (LQf X cl W (exec kt (.asg (.tup gs) e))) := by
  cases tg with
  | Tuple ts k p =>
    refine (ps_asg (sE e g.g tk h3) (sG g.g (.tup gs) h1) ?_ ?_ rfl).imp fun D σ H ⟨env, tab, r, A, q⟩ => ?_
    · cases v <;> rfl
    · cases v <;> first | rfl | cases h2
    · rw [exec_asg] at q
      refine ⟨env, tab, r, A, q.bindF.mono fun x s q v H1 A1 => ?_⟩
      cases x with
      | d x =>
        have q : PostF X cl W D r (match bindG (.tup gs) x s.env with
          | some env => .nx { s with env := env }
          | none => .st) := q
        cases hb : bindG (.tup gs) x s.env with
        | none => rw [hb] at q; exact q.elim
        | some env' =>
          rw [hb] at q
          exact ⟨x, s.env, env', s.tab, r, A1, hb, fun σ' H' A2 _ _ => q σ' H' A2⟩
      | o _ => exact (show False from q).elim
      | od _ _ => exact (show False from q).elim
  | _ => cases h0
end
end SH

end
section
set_option Elab.async false
set_option linter.all false
set_option maxRecDepth 100000
set_option maxHeartbeats 4000000
namespace SH
open PySem PySem.Spec L2 PyProof.Rows

section
variable {G : Gs} {cl : Str → Addr} {kt : Kt} {lv : Nat} {N : List Str} {X : Cx} {sc tsc : Scope} {W : WX} {a b c : Ex} {x x' x'' : Expr} {pos spos p : Pos} {i : Nat} {t : Str}
/-! ### a, b = x, y -/
def LVf (X : Cx) (cl : Str → Addr) (W : WX) (f : S → R (List Ev)) : TA := fun σ H Q => ∃ env tab r, AbsS X.K cl env σ r tab H ∧ PostR X cl W σ r (f ⟨env, tab⟩) fun es s => ∀ vs H', es.length = vs.length → AbsS X.K cl s.env σ (es.zip vs ++ r) s.tab H' → Q vs H'
theorem v_cons {es : Exs} {as : List Expr} (hs : noStar x = true) (ha : PE X x (LEf X cl W (eval kt a))) (h : PA X as (LVf X cl W (evalsE kt es))) : PA X (x :: as) (LVf X cl W (evalsE kt (.cons a es))) := by
  refine (pa_cons ha h (star_cons hs)).imp fun σ H Q ⟨env, tab, r, A, q⟩ => ?_
  rw [evalsE_cons] at q
  refine ⟨env, tab, r, A, q.bind.mono fun x s q v H1 A1 => ?_⟩
  refine ⟨s.env, s.tab, _, A1, (q.bind.roots (r' := (x, v) :: r) (List.sublist_cons_self _ _)).mono fun es s q vs H2 hl A3 => ?_⟩
  refine q (v :: vs) H2 (by simp [hl]) (A3.perm ?_)
  show (((x, v) :: es.zip vs) ++ r).Perm _
  exact List.perm_middle.symm
theorem sVs (g : Gd G cl kt lv N X sc tsc) (tk : Takes X W) : ∀ (es : Exs) {as : List Expr}, mEs G N sc es as = true → PA X as (LVf X cl W (evalsE kt es))
  | .nil, as, h => by
    have e := iv_nil h
    subst e
    exact pa_nil.imp fun σ H Q ⟨env, tab, r, A, q⟩ => q [] H rfl A
  | .cons e r, as, h => by
    obtain ⟨a, as', rfl, h1, h2, h3⟩ := iv_cons h
    exact v_cons h1 (sE e g tk h2) (sVs g tk r h3)
/-- what the slots are behind the stores -/
def storeL : List Nat → List V → L2.St → L2.St
  | i :: is, v :: vs, σ => storeL is vs (σ.set i (some v))
  | _, _, σ => σ
theorem setAll_ok : ∀ {is : List Nat} {es : List Ev} {vs : List V} {env env' : Env} {σ : L2.St} {r : Rt} {tab : List Ob} {H : Hp}, setAll is es env = some env' → es.length = vs.length → AbsS X.K cl env σ (es.zip vs ++ r) tab H → AbsS X.K cl env' (storeL is vs σ) r tab H
  | [], [], vs, env, env', σ, r, tab, H, h, hl, A => by
    cases h
    cases vs with
    | nil => exact A
    | cons _ _ => simp at hl
  | i :: is, e :: es, vs, env, env', σ, r, tab, H, h, hl, A => by
    cases vs with
    | nil => simp at hl
    | cons v vs =>
      have h : (if i < env.length then setAll is es (env.set i (some e)) else none) = some env' := h
      split at h
      · rename_i hi
        exact setAll_ok (vs := vs) h (by simpa using hl) (AbsS.store (e := e) (v := v) A hi)
      · cases h
  | [], _ :: _, _, _, _, _, _, _, _, h, _, _ => by cases h
  | _ :: _, [], _, _, _, _, _, _, _, h, _, _ => by cases h
theorem setAll_len : ∀ {is : List Nat} {es : List Ev} {env env' : Env}, setAll is es env = some env' → is.length = es.length
  | [], [], _, _, _ => rfl
  | i :: is, e :: es, env, env', h => by
    have h : (if i < env.length then setAll is es (env.set i (some e)) else none) = some env' := h
    split at h
    · simp [setAll_len h]
    · cases h
  | [], _ :: _, _, _, h => by cases h
  | _ :: _, [], _, _, h => by cases h
/-- the names of a row -/
def gStore : List Nat → TGs := fun is vs σ H Q => is.length = vs.length ∧ Q (storeL is vs σ) H
theorem pgs_names (g : Gst G cl kt lv N X sc) : ∀ {is : List Nat} {ts : List Expr}, mNs N sc is ts = true → PGs X ts (gStore is) ∧ (assignEach ts X.env).length = ts.length ∧ (assignEach ts X.env).findIdx? (·.1) = none ∧ is.length = ts.length
  | [], [], _ => ⟨pgs_nil.imp fun vs σ H Q ⟨h, q⟩ => by
      cases vs with
      | nil => exact ⟨rfl, q⟩
      | cons _ _ => simp at h, rfl, rfl, rfl⟩
  | i :: is, e :: es, h => by
    cases e with
    | Name x px =>
      obtain ⟨h1, h3⟩ := band (show (decide (N[i]? = some x) && decide (sc.names.lookup x = some .local) && mNs N sc is es) = true from h)
      obtain ⟨h1, h2⟩ := band h1
      obtain ⟨k1, k2, k3, k4⟩ := pgs_names g h3
      have hl : X.env.scope.names.lookup x = some .local := by rw [g.g.hsc]; exact of_decide_eq_true h2
      refine ⟨(pgs_cons (pg_name (i := i) (by rw [g.g.hN]; exact g.g.nd) (by rw [g.g.hN]; exact of_decide_eq_true h1) (.inl hl) (.inr hl)) k1 rfl).imp fun vs σ H Q ⟨h, q⟩ => ?_, ?_, ?_, by simp [k4]⟩
      · cases vs with
        | nil => simp at h
        | cons v vs => exact ⟨v, vs, rfl, by simpa using h, q⟩
      · show ((false, assign (.Name x px) X.env) :: assignEach es X.env).length = _
        simp [k2]
      · show ((false, assign (.Name x px) X.env) :: assignEach es X.env).findIdx? (·.1) = none
        rw [List.findIdx?_cons]
        simp [k3]
    | _ => exact absurd h Bool.false_ne_true
  | [], _ :: _, h => absurd h Bool.false_ne_true
  | _ :: _, [], h => absurd h Bool.false_ne_true
theorem mEs_len : ∀ {es : Exs} {as : List Expr}, mEs G N sc es as = true → ∀ {s s' : S} {ds : List Ev}, evalsE kt es s = .ok ds s' → ds.length = as.length
  | .nil, as, h, s, s', ds, he => by
    have e := iv_nil h
    subst e
    cases he
    rfl
  | .cons e r, as, h, s, s', ds, he => by
    obtain ⟨a, as', rfl, h1, h2, h3⟩ := iv_cons h
    rw [evalsE_cons] at he
    cases h4 : eval kt e s with
    | ok y s1 =>
      rw [h4, R.bind_ok] at he
      cases h5 : evalsE kt r s1 with
      | ok ys s2 =>
        rw [h5, R.bind_ok] at he
        cases he
        simp [mEs_len h3 h5]
      | ex _ _ => rw [h5] at he; cases he
      | st => rw [h5] at he; cases he
    | ex _ _ => rw [h4] at he; cases he
    | st => rw [h4] at he; cases he
theorem noStar_all : ∀ {es : Exs} {as : List Expr}, mEs G N sc es as = true → (as.any fun | .Starred .. => true | _ => false) = false
  | .nil, as, h => by
    have e := iv_nil h
    subst e
    rfl
  | .cons e r, as, h => by
    obtain ⟨a, as', rfl, h1, h2, h3⟩ := iv_cons h
    rw [List.any_cons, noStar_all h3]
    cases a <;> first | rfl | cases h1
/-- the tuple is made, then stored from the left -/
theorem sw_T {ts vs : List Expr} {kt1 k2 : Nat} {pt pt2 : Pos} {env : PySem.Env} (h : parT ts vs = true) : swappedStores [.Tuple ts kt1 pt] (.Tuple vs k2 pt2) env = pure none := by
  unfold swappedStores
  dsimp only
  rcases Bool.or_eq_true_iff.mp h with h | h
  · rw [h]
    rfl
  · split
    · rfl
    · split
      · rfl
      · split
        · rfl
        · first
            | rfl
            | (rw [h]; rfl)
theorem s_parT (g : Gst G cl kt lv N X sc) (tk : Takes X W) {is : List Nat} {es : Exs} {ts vs : List Expr} {kt1 k2 : Nat} {pt pt2 : Pos} (h1 : mNs N sc is ts = true) (h2 : mEs G N sc es vs = true) (h3 : parT ts vs = true) (hlen : vs.length ≤ 1000) :
    PS X (.Assign [.Tuple ts kt1 pt] (.Tuple vs k2 pt2) spos) (LQf X cl W (exec kt (.par is es))) := by
  obtain ⟨k1, k2, k3, k4⟩ := pgs_names g h1
  refine (ps_asg (pe_tup (sVs g.g tk es h2)) (pg_tup g.g.calm k1 k2 k3) (by rfl) (sw_T h3) rfl).imp fun D σ H ⟨env, tab, r, A, q⟩ => ?_
  rw [exec_par] at q
  have hz : 1000 ≤ sizeLine := by rw [sizeLine_eq]; omega
  have q2 := q.bindF (σ := σ)
  refine ⟨env, tab, r, A, ?_⟩
  cases he : evalsE kt es ⟨env, tab⟩ with
  | st => rw [he] at q2; exact q2.elim
  | ex y s => rw [he] at q2; exact q2
  | ok ds s =>
    rw [he] at q2
    intro vs' H1 hl A1
    have hd := mEs_len h2 he
    refine ⟨by rw [← hl, hd]; omega, fun pp hp => ?_⟩
    have q3 : PostF X cl W D r (match setAll is ds s.env with
      | some env => .nx { s with env := env }
      | none => .st) := q2
    cases hb : setAll is ds s.env with
    | none => rw [hb] at q3; exact q3.elim
    | some env' =>
      rw [hb] at q3
      refine ⟨pp, vs', rfl, SqT.of (by simp [upd]), by rw [← hl, hd, ← k4, setAll_len hb, hd], by rw [← hl, setAll_len hb], ?_⟩
      exact q3 _ _ (setAll_ok hb hl (A1.map fun p AA => AA.junk hp))
theorem neB {u v : Str} (h : u ≠ v) : (v == u) = false := by
  cases q : (v == u) with
  | false => rfl
  | true => exact absurd (beq_iff_eq.mp q).symm h
theorem sw_S2 {x y : Str} {a b : Expr} {px py : Pos} {kt1 k2 : Nat} {pt pt2 : Pos} {env : PySem.Env} (hb : env.blockKind = .function) (hx : env.scope.names.lookup x = some .local) (hy : env.scope.names.lookup y = some .local) (hxy : x ≠ y) (h : parS [.Name x px, .Name y py] [a, b] = true)
    (hs : ([a, b].any fun | .Starred .. => true | _ => false) = false) : swappedStores [.Tuple [.Name x px, .Name y py] kt1 pt] (.Tuple [a, b] k2 pt2) env = pure (some [x, y]) := by
  obtain ⟨h1, h3⟩ := band (show ((px.line == py.line) && !([a, b].all (foldedForSure 8)) && !([a, b].all (constantsAlone 8))) = true from h)
  obtain ⟨h1, h2⟩ := band h1
  have e1 : env.kindOf x = some .local := hx
  have e2 : env.kindOf y = some .local := hy
  have e3 : py.line = px.line := (beq_iff_eq.mp h1).symm
  have h2 : [a, b].all (foldedForSure 8) = false := by rw [Bool.not_eq_true'] at h2; exact h2
  have h3 : [a, b].all (constantsAlone 8) = false := by rw [Bool.not_eq_true'] at h3; exact h3
  have e5 : ∀ l : Nat, px.line = l → List.filterMap (fun | .Name id pos => if (env.kindOf id == some .local && pos.line == l) = true then some id else none | _ => none) [Expr.Name x px, Expr.Name y py] = [x, y] := fun l hl => by
    rw [List.filterMap_cons_some (b := x) (by simp [e1, hl]), List.filterMap_cons_some (b := y) (by simp [e2, e3, hl])]
    rfl
  have e4 : ([x, y].length != [Expr.Name x px, Expr.Name y py].length || [x, y].eraseDups.length != [x, y].length) = false := by
    simp [List.eraseDups_cons, neB hxy]
  unfold swappedStores
  refine (if_neg ?_).trans ((if_neg ?_).trans ((if_neg ?_).trans ((if_neg ?_).trans ((if_neg ?_).trans ?_))))
  · rw [hb]; exact fun hh => Bool.false_ne_true hh
  · intro hh
    exact Bool.false_ne_true (hs.symm.trans hh)
  · intro hh
    have q := congrArg (fun l : List Str => (l.length != [Expr.Name x px, Expr.Name y py].length || l.eraseDups.length != l.length)) (e5 _ rfl)
    exact Bool.false_ne_true ((q.trans e4).symm.trans hh)
  · rw [h2]; decide
  · rw [h3]; decide
  · exact congrArg (fun l : List Str => (pure (some l) : Sem (Option (List Str)))) (e5 _ rfl)
theorem sw_S3 {x y z : Str} {a b c : Expr} {px py pz : Pos} {kt1 k2 : Nat} {pt pt2 : Pos} {env : PySem.Env} (hb : env.blockKind = .function) (hx : env.scope.names.lookup x = some .local) (hy : env.scope.names.lookup y = some .local) (hz : env.scope.names.lookup z = some .local) (hxy : x ≠ y) (hxz : x ≠ z) (hyz : y ≠ z) (h : parS [.Name x px, .Name y py, .Name z pz] [a, b, c] = true)
    (hs : ([a, b, c].any fun | .Starred .. => true | _ => false) = false) : swappedStores [.Tuple [.Name x px, .Name y py, .Name z pz] kt1 pt] (.Tuple [a, b, c] k2 pt2) env = pure (some [x, y, z]) := by
  obtain ⟨h1, h3⟩ := band (show (((px.line == py.line) && (px.line == pz.line)) && !([a, b, c].all (foldedForSure 8)) && !([a, b, c].all (constantsAlone 8))) = true from h)
  obtain ⟨h1, h2⟩ := band h1
  obtain ⟨h1, h1'⟩ := band h1
  have e1 : env.kindOf x = some .local := hx
  have e2 : env.kindOf y = some .local := hy
  have e2' : env.kindOf z = some .local := hz
  have e3 : py.line = px.line := (beq_iff_eq.mp h1).symm
  have e3' : pz.line = px.line := (beq_iff_eq.mp h1').symm
  have h2 : [a, b, c].all (foldedForSure 8) = false := by rw [Bool.not_eq_true'] at h2; exact h2
  have h3 : [a, b, c].all (constantsAlone 8) = false := by rw [Bool.not_eq_true'] at h3; exact h3
  have e5 : ∀ l : Nat, px.line = l → List.filterMap (fun | .Name id pos => if (env.kindOf id == some .local && pos.line == l) = true then some id else none | _ => none) [Expr.Name x px, Expr.Name y py, Expr.Name z pz] = [x, y, z] := fun l hl => by
    rw [List.filterMap_cons_some (b := x) (by simp [e1, hl]), List.filterMap_cons_some (b := y) (by simp [e2, e3, hl]), List.filterMap_cons_some (b := z) (by simp [e2', e3', hl])]
    rfl
  have e4 : ([x, y, z].length != [Expr.Name x px, Expr.Name y py, Expr.Name z pz].length || [x, y, z].eraseDups.length != [x, y, z].length) = false := by
    simp [List.eraseDups_cons, neB hxy, neB hxz, neB hyz]
  unfold swappedStores
  refine (if_neg ?_).trans ((if_neg ?_).trans ((if_neg ?_).trans ((if_neg ?_).trans ((if_neg ?_).trans ?_))))
  · rw [hb]; exact fun hh => Bool.false_ne_true hh
  · intro hh
    exact Bool.false_ne_true (hs.symm.trans hh)
  · intro hh
    have q := congrArg (fun l : List Str => (l.length != [Expr.Name x px, Expr.Name y py, Expr.Name z pz].length || l.eraseDups.length != l.length)) (e5 _ rfl)
    exact Bool.false_ne_true ((q.trans e4).symm.trans hh)
  · rw [h2]; decide
  · rw [h3]; decide
  · exact congrArg (fun l : List Str => (pure (some l) : Sem (Option (List Str)))) (e5 _ rfl)
/-- .. kept apart, then stored from the right -/
theorem s_parS (g : Gst G cl kt lv N X sc) (tk : Takes X W) {is : List Nat} {es : Exs} {ts vs : List Expr} {kt1 k2 : Nat} {pt pt2 : Pos} (h1 : mNs N sc is ts = true) (hnd : is.Nodup) (h2 : mEs G N sc es vs = true) (h3 : parS ts vs = true) (hlen : ts.length = vs.length) :
    PS X (.Assign [.Tuple ts kt1 pt] (.Tuple vs k2 pt2) spos) (LQf X cl W (exec kt (.par is es))) := by
  have gN := g.g.hN
  have nd : X.N.Nodup := by rw [gN]; exact g.g.nd
  have one : ∀ {i : Nat} {e : Expr} {is : List Nat} {ts : List Expr}, mNs N sc (i :: is) (e :: ts) = true → ∃ x p, e = .Name x p ∧ X.N[i]? = some x ∧ X.env.scope.names.lookup x = some .local ∧ mNs N sc is ts = true := fun {i e is ts} h => by
    cases e with
    | Name x px =>
      obtain ⟨h1, h3⟩ := band (show (decide (N[i]? = some x) && decide (sc.names.lookup x = some .local) && mNs N sc is ts) = true from h)
      obtain ⟨h1, h2⟩ := band h1
      exact ⟨x, px, rfl, by rw [gN]; exact of_decide_eq_true h1, by rw [g.g.hsc]; exact of_decide_eq_true h2, h3⟩
    | _ => exact absurd h Bool.false_ne_true
  have ne : ∀ {i j : Nat} {x y : Str}, i ≠ j → X.N[i]? = some x → X.N[j]? = some y → x ≠ y := fun {i j x y} hij hx hy e => by
    subst e
    exact hij (L2.nodup_ix nd hx hy)
  have hst := noStar_all h2
  have core : ∀ (D : Ends) (σ : L2.St) (H : Hp), LQf X cl W (exec kt (.par is es)) D σ H → LVf X cl W (evalsE kt es) σ H fun us H1 => us.length = is.length ∧ D.nx (storeL is us σ) H1 := fun D σ H ⟨env, tab, r, A, q⟩ => by
    rw [exec_par] at q
    refine ⟨env, tab, r, A, q.bindF.mono fun ds s q us H1 hl A1 => ?_⟩
    cases hb : setAll is ds s.env with
    | none => rw [hb] at q; exact q.elim
    | some env' =>
      rw [hb] at q
      exact ⟨by rw [← hl, setAll_len hb], q _ _ (setAll_ok hb hl A1)⟩
  match ts, vs, is, h3, hlen, h1, hnd with
  | [t1, t2], [v1, v2], [i1, i2], h3, _, h1, hnd =>
    obtain ⟨x, px, rfl, hi, hx, h1⟩ := one h1
    obtain ⟨y, py, rfl, hj, hy, h1⟩ := one h1
    have hij : i1 ≠ i2 := by simp at hnd; exact hnd
    refine (ps_par g.g.calm nd hi hj hij hx hy (sVs g.g tk es h2) (sw_S2 g.block hx hy (ne hij hi hj) h3 hst)).imp fun D σ H q => ?_
    obtain ⟨env, tab, r, A, q⟩ := core D σ H q
    refine ⟨env, tab, r, A, q.mono fun ds s q us H1 hl A1 => ?_⟩
    obtain ⟨e1, q⟩ := q us H1 hl A1
    match us, e1, q with
    | [u1, u2], _, q => exact ⟨u1, u2, rfl, q⟩
  | [t1, t2, t3], [v1, v2, v3], [i1, i2, i3], h3, _, h1, hnd =>
    obtain ⟨x, px, rfl, hi, hx, h1⟩ := one h1
    obtain ⟨y, py, rfl, hj, hy, h1⟩ := one h1
    obtain ⟨z, pz, rfl, hk, hz, h1⟩ := one h1
    have hij : i1 ≠ i2 := by simp at hnd; exact hnd.1.1
    have hik : i1 ≠ i3 := by simp at hnd; exact hnd.1.2
    have hjk : i2 ≠ i3 := by simp at hnd; exact hnd.2
    refine (ps_par3 g.g.calm nd hi hj hk hij hik hjk hx hy hz (sVs g.g tk es h2) (sw_S3 g.block hx hy hz (ne hij hi hj) (ne hik hi hk) (ne hjk hj hk) h3 hst)).imp fun D σ H q => ?_
    obtain ⟨env, tab, r, A, q⟩ := core D σ H q
    refine ⟨env, tab, r, A, q.mono fun ds s q us H1 hl A1 => ?_⟩
    obtain ⟨e1, q⟩ := q us H1 hl A1
    match us, e1, q with
    | [u1, u2, u3], _, q => exact ⟨u1, u2, u3, rfl, q⟩
  | [_, _], [_, _], [], _, _, h1, _ => exact absurd h1 Bool.false_ne_true
  | [_, _], [_, _], [_], _, _, h1, _ =>
    obtain ⟨_, _, _, _, _, h1⟩ := one h1
    exact absurd h1 Bool.false_ne_true
  | [_, _], [_, _], _ :: _ :: _ :: _, _, _, h1, _ =>
    obtain ⟨_, _, _, _, _, h1⟩ := one h1
    obtain ⟨_, _, _, _, _, h1⟩ := one h1
    exact absurd h1 Bool.false_ne_true
  | [_, _, _], [_, _, _], [], _, _, h1, _ => exact absurd h1 Bool.false_ne_true
  | [_, _, _], [_, _, _], [_], _, _, h1, _ =>
    obtain ⟨_, _, _, _, _, h1⟩ := one h1
    exact absurd h1 Bool.false_ne_true
  | [_, _, _], [_, _, _], [_, _], _, _, h1, _ =>
    obtain ⟨_, _, _, _, _, h1⟩ := one h1
    obtain ⟨_, _, _, _, _, h1⟩ := one h1
    exact absurd h1 Bool.false_ne_true
  | [_, _, _], [_, _, _], _ :: _ :: _ :: _ :: _, _, _, h1, _ =>
    obtain ⟨_, _, _, _, _, h1⟩ := one h1
    obtain ⟨_, _, _, _, _, h1⟩ := one h1
    obtain ⟨_, _, _, _, _, h1⟩ := one h1
    exact absurd h1 Bool.false_ne_true
  | [], _, _, h3, _, _, _ => exact absurd h3 Bool.false_ne_true
  | [_], _, _, h3, _, _, _ => exact absurd h3 Bool.false_ne_true
  | _ :: _ :: _ :: _ :: _, _, _, h3, _, _, _ => exact absurd h3 Bool.false_ne_true
end
end SH

end
section
set_option Elab.async false
set_option linter.all false
set_option maxRecDepth 100000
set_option maxHeartbeats 4000000
namespace SH
open PySem PySem.Spec L2 PyProof.Rows

section
variable {G : Gs} {cl : Str → Addr} {kt : Kt} {lv : Nat} {N : List Str} {X : Cx} {sc tsc : Scope} {W : WX} {a b c e : Ex} {x x' x'' : Expr} {pos spos p : Pos} {i : Nat} {t : Str}
theorem s_expr (ha : PE X x (LEf X cl W (eval kt e))) (h : isComp x = false) : PS X (.Expr x pos) (LQf X cl W (exec kt (.expr e))) :=
  (ps_expr ha (sw_plain h)).imp fun D σ H ⟨env, tab, r, A, q⟩ => by
    rw [exec_expr] at q
    exact ⟨env, tab, r, A, q.bindF.mono fun y s q v H1 A1 => q σ H1 A1.tail⟩
theorem s_ret (ha : PE X x (LEf X cl W (eval kt e))) : PS X (.Return (some x) pos) (LQf X cl W (exec kt (.ret e))) :=
  (ps_ret ha).imp fun D σ H ⟨env, tab, r, A, q⟩ => by
    rw [exec_ret] at q
    exact ⟨env, tab, r, A, q.bindF.mono fun y s q v H1 A1 => q v H1 A1.abs⟩
theorem s_retN : PS X (.Return none pos) (LQf X cl W (exec kt .retN)) :=
  ps_retN.imp fun D σ H ⟨env, tab, r, A, q⟩ => by
    have q : PostF X cl W D r (.rt (.d .non) ⟨env, tab⟩) := q
    exact q _ H (A.addD (d := .non) fun Z al => .non).abs
theorem s_pass : PS X (.Pass pos) (LQf X cl W (exec kt .pass)) := ps_pass.imp fun D σ H ⟨env, tab, r, A, q⟩ => (show PostF X cl W D r (.nx ⟨env, tab⟩) from q) σ H A
theorem s_doc {z : Str} {j : Nat} : PS X (.Expr (.Constant (.str z) j p) pos) (LQf X cl W (exec kt .pass)) := ps_doc.imp fun D σ H ⟨env, tab, r, A, q⟩ => (show PostF X cl W D r (.nx ⟨env, tab⟩) from q) σ H A
theorem s_brk : PS X (.Break pos) (LQf X cl W (exec kt .brk)) := ps_break.imp fun D σ H ⟨env, tab, r, A, q⟩ => (show PostF X cl W D r (.bk ⟨env, tab⟩) from q) σ H A
theorem s_cont : PS X (.Continue pos) (LQf X cl W (exec kt .cont)) := ps_continue.imp fun D σ H ⟨env, tab, r, A, q⟩ => (show PostF X cl W D r (.ct ⟨env, tab⟩) from q) σ H A
theorem s_nil : PSs X [] (LQf X cl W (execs kt .nil)) := pss_nil.imp fun D σ H ⟨env, tab, r, A, q⟩ => (show PostF X cl W D r (.nx ⟨env, tab⟩) from q) σ H A
theorem PostF.seq {D : Ends} {r : Rt} {f : F} {k : S → F} (h : PostF X cl W D r (f.seq k)) : PostF X cl W { D with nx := LQf X cl W k D } r f := by
  cases f with
  | nx s => exact fun σ H A => ⟨s.env, s.tab, r, A, h⟩
  | rt e s => exact h
  | bk s => exact h
  | ct s => exact h
  | ex x s => exact h
  | st => exact h
theorem s_cons {s : Sm} {ss : Sms} {st : Stmt} {sts : List Stmt} (h1 : PS X st (LQf X cl W (exec kt s))) (h2 : PSs X sts (LQf X cl W (execs kt ss))) : PSs X (st :: sts) (LQf X cl W (execs kt (.cons s ss))) :=
  (pss_cons h1 h2).imp fun D σ H ⟨env, tab, r, A, q⟩ => by
    rw [execs_cons] at q
    exact ⟨env, tab, r, A, q.seq⟩
theorem s_iff {ss us : Sms} {sts uts : List Stmt} (hc : PT X x (LTf X cl W (tsf (eval kt c)))) (h1 : PSs X sts (LQf X cl W (execs kt ss))) (h2 : PSs X uts (LQf X cl W (execs kt us))) : PS X (.If x sts uts pos) (LQf X cl W (exec kt (.iff c ss us))) :=
  (ps_if hc h1 h2).imp fun D σ H ⟨env, tab, r, A, q⟩ => by
    rw [exec_iff, tstE] at q
    refine ⟨env, tab, r, A, q.bindF.mono fun d s q H1 A1 => ?_⟩
    cases d with
    | true => exact iteT ⟨s.env, s.tab, r, A1, q⟩
    | false => exact iteF ⟨s.env, s.tab, r, A1, q⟩
theorem aug_op {o : Bop} {o' : Operator} (ho : opOf o = o') (ha : isAug o = true) : ∃ f, PIp X o' (ipI f) ∧ ∀ a b, augI o a b = some (f a b) := by
  subst ho
  cases o <;> first | (cases ha; done) | skip
  · exact ⟨_, ip_add, fun a b => rfl⟩
  · exact ⟨_, ip_sub, fun a b => rfl⟩
/-- name += e -/
theorem s_aug (g : Gst G cl kt lv N X sc) {o : Bop} {o' : Operator} (ho : opOf o = o') (hg : isAug o = true) (h1 : N[i]? = some t) (h2 : loc sc t = true) (ha : PE X x (LEf X cl W (eval kt e))) : PS X (.AugAssign (.Name t p) o' x pos) (LQf X cl W (exec kt (.aug i o e))) := by
  obtain ⟨l1, l2⟩ := g.g.tgt t h2
  have nd : X.N.Nodup := by rw [g.g.hN]; exact g.g.nd
  have hN : X.N[i]? = some t := by rw [g.g.hN]; exact h1
  obtain ⟨f, hf, hk⟩ := aug_op (X := X) ho hg
  refine (ps_aug nd hN l1 ha hf l2).imp fun D σ H ⟨env, tab, r, A, q⟩ => ?_
  rw [exec_aug] at q
  split at q
  · rename_i e0 he0
    obtain ⟨p0, s0, A0⟩ := id A
    obtain ⟨v, P0, B0, hv, _⟩ := s0.at_some (slot_get he0)
    refine ⟨v, hv, env, tab, r, A, q.bindF.mono fun y s q w H1 A1 => ?_⟩
    split at q
    · rename_i m n hm
      rw [hk] at q
      have ew := A1.int_
      subst ew
      obtain ⟨p1, s1, Z, al, A2⟩ := id A1
      have hmem := AbsS.mem s1 (slot_get hm) hv
      have ev := A2.int_ (List.mem_append_left _ hmem)
      subst ev
      refine ⟨m, n, rfl, rfl, (show PostF X cl W D r (.nx { s with env := s.env.set i (some (.d (.int (f m n)))) }) from q) _ H1 ?_⟩
      exact (A1.tail.addInt (f m n)).store (List.getElem?_eq_some_iff.mp (slot_get hm)).1
    · exact q.elim
  · exact q.elim
/-! ### written lists -/
theorem bR_d {y : Ev} {d : SH.D} {v : V} (h : y = .d d) : bR (.ev y) v = [(.d d, v)] := by rw [h]; rfl
/-- o[k] = e -/
theorem s_setIx (g : Gst G cl kt lv N X sc) (h0 : noSl x'' = true) (hb : PE X x' (LBf X cl W (bo b (eval kt b)))) (hc : PE X x'' (LEf X cl W (eval kt c))) (ha : PE X x (LEf X cl W (eval kt e))) :
    PS X (.Assign [.Subscript x' x'' p] x pos) (LQf X cl W (exec kt (.setIx b c e))) := by
  refine (ps_asg ha (pg_sub hb hc set_list (fun v => ?_)) (show swapsWith x (some (.Subscript x' x'' p)) pos.line X.env = pure false from sw_sub) sws_no rfl).imp fun D σ H ⟨env, tab, r, A, q⟩ => ?_
  · cases x'' <;> first | rfl | cases h0
  · rw [exec_setIx] at q
    refine ⟨env, tab, r, A, q.bindF.mono fun y s q v H1 A1 => ?_⟩
    have A1 := A1.toD
    refine ⟨s.env, s.tab, _, A1, (q.bindF.roots (r' := (Ev.d y.toD, v) :: r) (List.sublist_cons_self _ _)).mono fun z s q w H2 A2 hw => ?_⟩
    refine ⟨s.env, s.tab, _, A2, (q.bindF.roots (r' := bR z w ++ ((Ev.d y.toD, v) :: r)) ((List.sublist_cons_self _ _).trans bR_sub)).mono fun j s q u H3 A3 => ?_⟩
    obtain ⟨a, vs, xs, ys, Z, al, e1, e2, e3, e4, e5, e6⟩ := putL_ok A3 (fun q hq => List.mem_cons_of_mem _ (List.mem_append_left _ hq)) hw (((List.sublist_cons_self _ _).trans bR_sub).trans (List.sublist_cons_self _ _)) q
    subst e1
    unfold setAt at e4
    split at e4
    · rename_i k
      cases hk : ixN xs.length k with
      | none => rw [hk] at e4; cases e4
      | some n =>
        rw [hk] at e4
        cases e4
        have eu := A3.int_
        subst eu
        refine ⟨a, vs, k, n, rfl, rfl, e2, by rw [← e3.length]; exact hk, e6 _ (e3.set (e5 _ _ ?_) n)⟩
        exact List.mem_cons_of_mem _ (List.mem_append_right _ List.mem_cons_self)
    · cases e4
end
end SH

end
section
set_option Elab.async false
set_option linter.all false
set_option maxRecDepth 100000
set_option maxHeartbeats 4000000
namespace SH
open PySem PySem.Spec L2 PyProof.Rows

/-- o[i] of a list, by values -/
theorem get_list {X : Cx} : PGet X (rIxL X.K) := by
  intro pins s σ H o i ov iv Q I ro ri h
  obtain ⟨p, xs, k, z, rfl, rfl, hq, he, q⟩ := h
  cases ro
  obtain ⟨t, rfl⟩ := ri
  obtain ⟨its, r, pl, hz⟩ := I.list hq
  obtain ⟨j, h1, h2, h3, h4, h5⟩ := atI_get he
  obtain ⟨w, ew, rw'⟩ := r.get h2
  have hl := r.length
  have hn := line63
  have fin : EP X pins σ Q w s := ⟨z, H, I, rw', q⟩
  by_cases h0 : 0 ≤ k
  · have hj : k.toNat = j := by
      rw [seqIndex_of h0 h5] at h1
      exact Option.some.inj h1
    exact wpAny_getItem_list pl.isList h0 (by omega) (by rw [hj]; simpa using ew) fin
  · have hj : (k + (its.toArray.size : Int)).toNat = j := by
      rw [seqIndex_neg (by omega) h4] at h1
      rw [List.size_toArray, ← hl]
      exact Option.some.inj h1
    exact wpAny_getItem_list_neg pl.isList (by omega) (by rw [List.size_toArray] <;> omega) (by omega) (by rw [hj]; simpa using ew) fin
section
variable {G : Gs} {cl : Str → Addr} {kt : Kt} {lv : Nat} {N : List Str} {X : Cx} {sc tsc : Scope} {W : WX} {a b c e : Ex} {x x' x'' : Expr} {pos spos p : Pos} {i : Nat} {t : Str}
/-- o.append(e) -/
theorem s_append (g : Gst G cl kt lv N X sc) {o v : Expr} {ap p : Pos} (h0 : noCallE o = true) (hs : noStar v = true) (hl : (ap.endLine == p.line) = true) (hb : PE X o (LBf X cl W (bo b (eval kt b)))) (ha : PE X v (LEf X cl W (eval kt e))) :
    PS X (.Expr (.Call (.Attribute o "append" ap) [v] [] p) pos) (LQf X cl W (exec kt (.append b e))) := by
  refine (ps_expr (pe_bm PySem.F.plainAttrs_list PySem.F.slot_list_append PySem.F.type_list_append mt_append hb (pa_cons ha pa_nil (star_cons hs)) (by cases o <;> first | rfl | cases h0) (by rw [star_cons hs]; rfl) hl (star_cons hs) rfl) rfl).imp fun D σ H ⟨env, tab, r, A, q⟩ => ?_
  rw [exec_append] at q
  refine ⟨env, tab, r, A, q.bindF.mono fun z s q w H1 A1 hw => ?_⟩
  cases hz : (rsv s z).bind (lstOf s.tab) with
  | none => rw [hz] at q; exact q.elim
  | some xs0 =>
    rw [hz] at q
    dsimp only at q
    cases hr : rsv s z with
    | none => rw [hr] at hz; cases hz
    | some e0 =>
      rw [hr] at hz
      obtain ⟨p1, sl, Z, al, AA⟩ := id A1
      obtain ⟨a0, vs0, rfl, k1, k2⟩ := lst_ok AA (bo_mem sl hw hr fun q hq => by simp [hq]) hz
      refine ⟨.inl ⟨rfl, _, SqL.of k1⟩, s.env, s.tab, _, A1, (q.bindF.roots (r' := bR z (V.ref a0) ++ r) bR_sub).mono fun y s q u H3 A3 => ?_⟩
      have A3 := A3.toD
      obtain ⟨a, vs, xs, ys, Z, al, e1, e2, e3, e4, e5, e6⟩ := putL_ok A3 (fun q hq => List.mem_cons_of_mem _ (List.mem_append_left _ hq)) hw (bR_sub.trans (List.sublist_cons_self _ _)) q
      split at e4
      · rename_i hlt
        cases e4
        refine ⟨a, vs, u, e1, rfl, e2, by rw [← lim_eq, ← e3.length]; exact hlt, e6 _ (e3.append (.cons (e5 _ _ List.mem_cons_self) .nil))⟩
      · cases e4
/-- o[k] op= e -/
theorem s_augIx (g : Gst G cl kt lv N X sc) {o : Bop} {o' : Operator} (ho : opOf o = o') (hg : isAug o = true) (h0 : noSl x'' = true) (hb : PE X x' (LBf X cl W (bo b (eval kt b)))) (hc : PE X x'' (LEf X cl W (eval kt c))) (ha : PE X x (LEf X cl W (eval kt e))) :
    PS X (.AugAssign (.Subscript x' x'' p) o' x pos) (LQf X cl W (exec kt (.augIx b c o e))) := by
  obtain ⟨f, hf, hk⟩ := aug_op (X := X) ho hg
  refine (ps_augS hb hc get_list ha hf set_list (fun ov iv new => by cases x'' <;> first | rfl | cases h0)).imp fun D σ H ⟨env, tab, r, A, q⟩ => ?_
  rw [exec_augIx] at q
  refine ⟨env, tab, r, A, q.bindF.mono fun z s q w H1 A1 hw => ?_⟩
  refine ⟨s.env, s.tab, _, A1, (q.bindF.roots (r' := bR z w ++ r) bR_sub).mono fun j s q u H3 A3 => ?_⟩
  split at q
  · rename_i xs0 n hz
    cases hr : rsv s z with
    | none => rw [hr] at hz; cases hz
    | some e0 =>
      rw [hr] at hz
      split at q
      · rename_i m hm
        obtain ⟨p1, sl, Z, al, AA⟩ := id A3
        obtain ⟨a0, vs0, rfl, k1, k2⟩ := lst_ok AA (bo_mem sl hw hr fun q hq => by simp [hq]) hz
        have eu := A3.int_
        subst eu
        obtain ⟨y0, h1, h2⟩ := atI_rps k2 hm
        cases h2
        refine ⟨a0, vs0, n, .int m, rfl, rfl, SqL.of k1, h1, s.env, s.tab, _, A3, (q.bindF.roots (r' := (Ev.d (.int n), V.int n) :: (bR z (V.ref a0) ++ r)) (bR_sub.trans (List.sublist_cons_self _ _))).mono fun y s q w2 H4 A4 => ?_⟩
        split at q
        · rename_i m2
          rw [hk] at q
          have ew := A4.int_
          subst ew
          refine ⟨m, m2, rfl, rfl, ?_⟩
          obtain ⟨a, vs, xs, ys, Z, al, e1, e2, e3, e4, e5, e6⟩ := putL_ok A4 (fun q hq => List.mem_cons_of_mem _ (List.mem_cons_of_mem _ (List.mem_append_left _ hq))) hw ((bR_sub.trans (List.sublist_cons_self _ _)).trans (List.sublist_cons_self _ _)) q
          have e4 : ((ixN xs.length n).map fun j => xs.set j (.int (f m m2))) = some ys := e4
          cases hk2 : ixN xs.length n with
          | none => rw [hk2] at e4; cases e4
          | some nn =>
            rw [hk2] at e4
            cases e4
            exact ⟨a, vs, n, nn, e1, rfl, e2, by rw [← e3.length]; exact hk2, e6 _ (e3.set (.int _) nn)⟩
        · exact q.elim
      · exact q.elim
  · exact q.elim
end
end SH

end
section
set_option Elab.async false
set_option linter.all false
set_option maxRecDepth 100000
set_option maxHeartbeats 4000000
namespace SH
open PySem PySem.Spec L2 PyProof.Rows

section
variable {G : Gs} {cl : Str → Addr} {kt : Kt} {lv : Nat} {N : List Str} {X : Cx} {sc tsc : Scope} {W : WX} {a b c e : Ex} {x x' x'' : Expr} {pos spos p : Pos} {i : Nat} {t : Str}
theorem PostF.roots {D : Ends} {r r' : Rt} {f : F} (h : PostF X cl W D r f) (hs : r.Sublist r') : PostF X cl W D r' f := by
  cases f with
  | nx s => exact fun σ H A => h σ H (A.sublist hs)
  | rt e s => exact fun v H A => h v H (A.sublist (List.Sublist.cons_cons _ hs))
  | bk s => exact fun σ H A => h σ H (A.sublist hs)
  | ct s => exact fun σ H A => h σ H (A.sublist hs)
  | ex x s => exact fun C σ H hC A => h C σ H hC (A.sublist hs)
  | st => exact h
abbrev PO (X : Cx) : Prop := PassesOwn (model X.prog X.w) X.A X.env X.xe
/-- for -/
theorem s_for (g : Gst G cl kt lv N X sc) (hp : PO X) {tg iter : Expr} {tgt : Tg} {it : Gen} {ss : Sms} {sts : List Stmt} (hm : mTg N sc tgt tg = true) (hI : mI G N sc tg it iter = true) (hi : PI X tg iter (LIf X cl W (evIt kt it))) (hb : PSs X sts (LQf X cl W (execs kt ss))) :
    PS X (.For tg iter sts [] pos) (LQf X cl W (exec kt (.for_ tgt it ss))) := by
  refine (ps_for hp g.g.calm hi (sG g.g tgt hm) hb (folded_ok (mI_noSet hI) _)).imp fun D σ H ⟨env, tab, r, A, q⟩ => ?_
  rw [exec_for] at q
  refine ⟨env, tab, r, A, q.bindF.mono fun w s q J r0 H1 A1 wk hp => ?_⟩
  split at q
  · refine ⟨fun i m σ H => m = w.its.length - i ∧ i ≤ w.its.length ∧ ∃ s' : S, AbsS X.K cl s'.env σ (r0 ++ r) s'.tab H ∧ PostF X cl W D r (forL (bindG tgt) (fun s => execs kt ss s) (w.its.drop i) s'), ⟨w.its.length, by simp, Nat.zero_le _, s, A1, q⟩, ?_⟩
    rintro i m σ H ⟨rfl, hi, s', A2, q2⟩
    by_cases hlt : i < w.its.length
    · refine .inr ⟨walk_go wk A2 hlt, fun σ' H' => ∃ s' : S, AbsS X.K cl s'.env σ' (r0 ++ r) s'.tab H' ∧ PostF X cl W D r (forL (bindG tgt) (fun s => execs kt ss s) (w.its.drop (i + 1)) s'), fun σ' H' h => ⟨w.its.length - (i + 1), by omega, rfl, hlt, h⟩, fun y H' hy => ?_⟩
      obtain ⟨d, hd, A3⟩ := walk_abs wk A2 hlt hy
      have hdrop : w.its.drop i = d :: w.its.drop (i + 1) := by
        rw [List.drop_eq_getElem_cons hlt]
        rw [List.getElem?_eq_getElem hlt] at hd
        rw [Option.some.inj hd]
      rw [hdrop] at q2
      unfold forL at q2
      cases hb2 : bindG tgt d s'.env with
      | none => rw [hb2] at q2; exact q2.elim
      | some env1 =>
        rw [hb2] at q2
        dsimp only at q2
        refine ⟨d, s'.env, env1, s'.tab, _, A3, hb2, fun σ1 H3 A4 eH hw => ⟨env1, s'.tab, _, A4, ?_⟩⟩
        cases he : execs kt ss { s' with env := env1 } with
        | nx s2 => rw [he] at q2; exact fun σ2 H4 A5 => ⟨s2, A5, q2⟩
        | ct s2 => rw [he] at q2; exact fun σ2 H4 A5 => ⟨s2, A5, q2⟩
        | bk s2 => rw [he] at q2; exact fun σ2 H4 A5 => (show PostF X cl W D r (.nx s2) from q2) σ2 H4 (A5.sublist (List.sublist_append_right _ _))
        | rt e s2 => rw [he] at q2; exact PostF.roots (f := .rt e s2) (D := { D with nx := _, ct := _, bk := D.nx }) (show PostF X cl W { D with nx := _, ct := _, bk := D.nx } r (.rt e s2) from (show PostF X cl W D r (.rt e s2) from q2)) (List.sublist_append_right _ _)
        | ex y s2 => rw [he] at q2; exact fun C σ2 H4 hC A5 => (show PostF X cl W D r (.ex y s2) from q2) C σ2 H4 hC (A5.sublist (List.sublist_append_right _ _))
        | st => rw [he] at q2; exact (show False from q2).elim
    · have e0 : i = w.its.length := by omega
      subst e0
      refine .inl ⟨walk_stop wk A2, ?_⟩
      rw [List.drop_length] at q2
      exact (show PostF X cl W D r (.nx s') from q2) σ H (A2.sublist (List.sublist_append_right _ _))
  · exact q.elim
/-- while -/
theorem s_while (g : Gst G cl kt lv N X sc) (hp : PO X) {ss : Sms} {sts : List Stmt} (hc : PT X x (LTf X cl W (tsf (eval kt c)))) (hb : PSs X sts (LQf X cl W (execs kt ss))) : PS X (.While x sts [] pos) (LQf X cl W (exec kt (.while_ c ss))) := by
  refine (ps_while hp hc hb).imp fun D σ H ⟨env, tab, r, A, q⟩ => ?_
  rw [exec_while] at q
  refine ⟨fun m σ H => ∃ s' : S, AbsS X.K cl s'.env σ r s'.tab H ∧ PostF X cl W D r (whileL (tst kt c) (fun s => execs kt ss s) m s'), ⟨wfuel, _, A, q⟩, ?_⟩
  rintro m σ H ⟨s', A2, q2⟩
  cases m with
  | zero => exact (show False from q2).elim
  | succ m =>
    unfold whileL at q2
    rw [tstE] at q2
    refine ⟨s'.env, s'.tab, r, A2, ?_⟩
    cases ht : tsf (eval kt c) s' with
    | st => rw [ht] at q2; exact (show False from q2).elim
    | ex y s2 => rw [ht] at q2; exact fun C H' hC A3 => (show PostF X cl W D r (.ex y s2) from q2) C _ H' hC A3
    | ok d s2 =>
      rw [ht] at q2
      intro H1 A3
      cases d with
      | false => exact iteF ((show PostF X cl W D r (.nx s2) from q2) σ H1 A3)
      | true =>
        refine iteT ⟨fun σ' H' => ∃ s' : S, AbsS X.K cl s'.env σ' r s'.tab H' ∧ PostF X cl W D r (whileL (tst kt c) (fun s => execs kt ss s) m s'), fun σ' H' h => ⟨m, Nat.lt_succ_self m, h⟩, s2.env, s2.tab, r, A3, ?_⟩
        dsimp only at q2
        cases he : execs kt ss s2 with
        | nx s3 => rw [he] at q2; exact fun σ2 H4 A5 => ⟨s3, A5, q2⟩
        | ct s3 => rw [he] at q2; exact fun σ2 H4 A5 => ⟨s3, A5, q2⟩
        | bk s3 => rw [he] at q2; exact fun σ2 H4 A5 => (show PostF X cl W D r (.nx s3) from q2) σ2 H4 A5
        | rt e s3 => rw [he] at q2; exact (show PostF X cl W D r (.rt e s3) from q2)
        | ex y s3 => rw [he] at q2; exact (show PostF X cl W D r (.ex y s3) from q2)
        | st => rw [he] at q2; exact (show False from q2).elim
/-- raise C('m') -/
theorem s_raise (g : Gst G cl kt lv N X sc) (tk : Takes X W) {C m : Str} {f : Expr} {j : Nat} {p2 pos' : Pos} (h1 : mName sc C f = true) (h2 : G.exc.contains C = true) :
    PS X (.Raise (some (.Call f [.Constant (.str m) j p2] [] pos)) none pos') (LQf X cl W (exec kt (.raise C m))) := by
  obtain ⟨p, rfl, hg, hdb, hn⟩ := g.g.name h1
  obtain ⟨Ca, e1, e2, e3, e4⟩ := g.exc C h2
  exact (ps_raise g.g.calm tk (pmk_own PySem.F.excBase_ValueError e3 e1 e2 e4 hg hdb)).imp fun D σ H ⟨env, tab, r, A, q⟩ => (show PostF X cl W D r (.ex C ⟨env, tab⟩) from q) Ca σ H e1 A
end
end SH

end
section
set_option Elab.async false
set_option linter.all false
set_option maxRecDepth 100000
set_option maxHeartbeats 4000000
namespace SH
open PySem PySem.Spec L2 PyProof.Rows

/-! ### except suites -/
section
variable {G : Gs} {cl : Str → Addr} {kt : Kt} {lv : Nat} {N : List Str} {X : Cx} {sc tsc : Scope} {W : WX} {a b c e : Ex} {x x' x'' : Expr} {pos spos p : Pos} {i : Nat} {t : Str}
structure Gh (N : List Str) (X : Cx) (sc : Scope) : Prop where
  hN : X.N = N
  nd : N.Nodup
  hsc : X.env.scope = sc
  tgt : ∀ x, loc sc x = true → Loc X.env.scope x ∧ (X.fn x = true ∨ X.env.scope.names.lookup x = some .local)
theorem Gd.gh (g : Gd G cl kt lv N X sc sc) (a : Addr) (pn : List (Addr × Obj)) : Gh N (X.suite a pn) sc := ⟨g.hN, g.nd, g.hsc, g.tgt⟩
theorem Gh.mvar (g : Gh N X sc) (h : mVar N sc i x = true) : ∃ y pos, x = .Name y pos ∧ X.N[i]? = some y ∧ Vis X.env.scope y ∧ (y == ("__debug__" : Str)) = false ∧ (y == ("__classdict__" : Str)) = false := by
  unfold mVar at h
  split at h
  · rename_i x pos
    simp only [Bool.and_eq_true, decide_eq_true_eq] at h
    obtain ⟨⟨h1, h2⟩, h3⟩ := h
    exact ⟨x, pos, rfl, by rw [g.hN]; exact h1, by rw [g.hsc]; exact vis_ok h2, (okN_ok h3).1, (okN_ok h3).2.1⟩
  · cases h
theorem hotE_ok (g : Gh N X sc) : ∀ (e : Ex) {a : Expr}, hotE e = true → mE G N sc e a = true → PE X a (LEf X cl W (eval kt e))
  | .var i, a, _, h => by
    obtain ⟨y, pos, rfl, hN, hV, hd, hc⟩ := g.mvar (show mVar N sc i a = true from h)
    refine (pe_var hN hV hd hc).imp fun σ H Q ⟨env, tab, r, A, q⟩ => ?_
    rw [eval_var] at q
    unfold varOf at q
    split at q
    · rename_i e he
      obtain ⟨v, h1, A1⟩ := A.var (slot_get he)
      exact ⟨v, h1, q v H A1⟩
    · exact q.elim
  | .mv i, a, _, h => by
    obtain ⟨y, pos, rfl, hN, hV, hd, hc⟩ := g.mvar (show mVar N sc i a = true from h)
    refine (pe_var hN hV hd hc).imp fun σ H Q ⟨env, tab, r, A, q⟩ => ?_
    rw [eval_mv] at q
    unfold mvOf at q
    split at q
    · rename_i e he
      obtain ⟨v, h1, A1⟩ := A.mv (slot_get he)
      exact ⟨v, h1, q v H A1⟩
    · exact q.elim
  | .non, a, _, h => by
    obtain ⟨j, p, rfl⟩ := iv_non h
    exact pe_non.imp fun σ H Q ⟨env, tab, r, A, q⟩ => q _ H (A.addD fun Z al => .non)
  | .bl b, a, _, h => by
    obtain ⟨j, p, rfl⟩ := iv_bl h
    exact pe_bl.imp fun σ H Q ⟨env, tab, r, A, q⟩ => q _ H (A.addBl b)
  | .int b, a, _, h => by
    obtain ⟨j, p, rfl⟩ := iv_int h
    exact pe_int.imp fun σ H Q ⟨env, tab, r, A, q⟩ => q _ H (A.addInt b)
  | .str b, a, _, h => by
    obtain ⟨j, p, rfl⟩ := iv_str h
    exact pe_str.imp fun σ H Q ⟨env, tab, r, A, q⟩ => q _ H (A.addD fun Z al => .str b)
  | .bor _, _, h, _ => absurd h Bool.false_ne_true
  | .glob _, _, h, _ => absurd h Bool.false_ne_true
  | .op _ _ _, _, h, _ => absurd h Bool.false_ne_true
  | .neg _, _, h, _ => absurd h Bool.false_ne_true
  | .cmp _ _ _, _, h, _ => absurd h Bool.false_ne_true
  | .chain _ _ _ _ _, _, h, _ => absurd h Bool.false_ne_true
  | .isN _ _, _, h, _ => absurd h Bool.false_ne_true
  | .and_ _ _, _, h, _ => absurd h Bool.false_ne_true
  | .or_ _ _, _, h, _ => absurd h Bool.false_ne_true
  | .not_ _, _, h, _ => absurd h Bool.false_ne_true
  | .ite_ _ _ _, _, h, _ => absurd h Bool.false_ne_true
  | .tup _, _, h, _ => absurd h Bool.false_ne_true
  | .lst _, _, h, _ => absurd h Bool.false_ne_true
  | .ix _ _, _, h, _ => absurd h Bool.false_ne_true
  | .sl _ _ _, _, h, _ => absurd h Bool.false_ne_true
  | .nop, _, h, _ => absurd h Bool.false_ne_true
  | .call _ _, _, h, _ => absurd h Bool.false_ne_true
  | .bi _ _, _, h, _ => absurd h Bool.false_ne_true
  | .isi _ _, _, h, _ => absurd h Bool.false_ne_true
  | .isit _ _, _, h, _ => absurd h Bool.false_ne_true
  | .comp _ _ _ _ _, _, h, _ => absurd h Bool.false_ne_true
  | .pop _ _, _, h, _ => absurd h Bool.false_ne_true
  | .share _, _, h, _ => absurd h Bool.false_ne_true
theorem hotE_comp : ∀ (e : Ex) {a : Expr}, hotE e = true → mE G N sc e a = true → isComp a = false := fun e a h1 h2 => by
  cases e <;> first | exact absurd h1 Bool.false_ne_true | skip
  case var => cases a <;> first | rfl | exact absurd h2 Bool.false_ne_true
  case mv => cases a <;> first | rfl | exact absurd h2 Bool.false_ne_true
  case non => obtain ⟨j, p, rfl⟩ := iv_non h2; rfl
  case bl => obtain ⟨j, p, rfl⟩ := iv_bl h2; rfl
  case int => obtain ⟨j, p, rfl⟩ := iv_int h2; rfl
  case str => obtain ⟨j, p, rfl⟩ := iv_str h2; rfl
theorem hotS_ok (g : Gh N X sc) : ∀ (s : Sm) {st : Stmt}, hotS s = true → mS G N sc s st = true → PS X st (LQf X cl W (exec kt s)) := fun s st h1 h2 => by
  cases s <;> first | exact absurd h1 Bool.false_ne_true | skip
  case asg tg e =>
    cases tg with
    | tup gs => exact absurd h1 Bool.false_ne_true
    | name i =>
      have h1 : hotE e = true := h1
      cases st <;> first | exact absurd h2 Bool.false_ne_true | skip
      rename_i ts v q
      match ts, h2 with
      | [.Name t p], h2 =>
        obtain ⟨k, k4⟩ := band (show (decide (N[i]? = some t) && loc sc t && mE G N sc e v && (swF p v || swT sc t p v)) = true from h2)
        obtain ⟨k, k3⟩ := band k
        obtain ⟨k1, k2⟩ := band k
        obtain ⟨l1, l2⟩ := g.tgt t k2
        exact s_name (ps_set (by rw [g.hN]; exact g.nd) (by rw [g.hN]; exact of_decide_eq_true k1) l1 (hotE_ok g e h1 k3) (sw_plain (hotE_comp e h1 k3)) l2)
      | [], h2 => exact absurd h2 Bool.false_ne_true
      | .Name _ _ :: _ :: _, h2 => exact absurd h2 Bool.false_ne_true
      | u :: us, h2 =>
        cases u <;> first | exact absurd h2 Bool.false_ne_true | skip
        cases us <;> first | exact absurd h2 Bool.false_ne_true | skip
        rename_i t p
        obtain ⟨k, k4⟩ := band (show (decide (N[i]? = some t) && loc sc t && mE G N sc e v && (swF p v || swT sc t p v)) = true from h2)
        obtain ⟨k, k3⟩ := band k
        obtain ⟨k1, k2⟩ := band k
        obtain ⟨l1, l2⟩ := g.tgt t k2
        exact s_name (ps_set (by rw [g.hN]; exact g.nd) (by rw [g.hN]; exact of_decide_eq_true k1) l1 (hotE_ok g e h1 k3) (sw_plain (hotE_comp e h1 k3)) l2)
  case ret e =>
    cases st <;> first | exact absurd h2 Bool.false_ne_true | skip
    rename_i v q
    cases v with
    | none => exact absurd h2 Bool.false_ne_true
    | some v => exact s_ret (hotE_ok g e h1 h2)
  case retN =>
    cases st <;> first | exact absurd h2 Bool.false_ne_true | skip
    rename_i v q
    cases v with
    | none => exact s_retN
    | some v => exact absurd h2 Bool.false_ne_true
  case pass =>
    cases st <;> first | exact absurd h2 Bool.false_ne_true | exact s_pass | skip
    rename_i v q
    cases v <;> first | exact absurd h2 Bool.false_ne_true | skip
    rename_i c _ _
    cases c <;> first | exact absurd h2 Bool.false_ne_true | exact s_doc
  case brk => cases st <;> first | exact absurd h2 Bool.false_ne_true | exact s_brk
  case cont => cases st <;> first | exact absurd h2 Bool.false_ne_true | exact s_cont
theorem hotSs_ok (g : Gh N X sc) : ∀ (s : Sms) {st : List Stmt}, hotSs s = true → mSs G N sc s st = true → PSs X st (LQf X cl W (execs kt s))
  | .nil, st, _, h => by
    cases st with
    | nil => exact s_nil
    | cons _ _ => exact absurd h Bool.false_ne_true
  | .cons s r, st, h, hm => by
    obtain ⟨k1, k2⟩ := band (show (hotS s && hotSs r) = true from h)
    cases st with
    | nil => exact absurd hm Bool.false_ne_true
    | cons x xs =>
      obtain ⟨m1, m2⟩ := band (show (mS G N sc s x && mSs G N sc r xs) = true from hm)
      exact s_cons (hotS_ok g s k1 m1) (hotSs_ok g r k2 m2)
end
end SH

end
section
set_option Elab.async false
set_option linter.all false
set_option maxRecDepth 100000
set_option maxHeartbeats 4000000
namespace SH
open PySem PySem.Spec L2 PyProof.Rows

section
variable {G : Gs} {cl : Str → Addr} {kt : Kt} {lv : Nat} {N : List Str} {X : Cx} {sc tsc : Scope} {W : WX} {a b c e : Ex} {x x' x'' : Expr} {pos spos p : Pos} {i : Nat} {t : Str}
theorem names_of (g : Gst G cl kt lv N X sc) {C : Str} {f : Expr} (h1 : mName sc C f = true) (h2 : G.exc.contains C = true) : ∃ p Ca, f = .Name C p ∧ X.mg C = some (.ref Ca) ∧ Names X C (.ref Ca) := by
  obtain ⟨p, rfl, hg, hdb, hn⟩ := g.g.name h1
  obtain ⟨Ca, e1, _⟩ := g.exc C h2
  exact ⟨p, Ca, rfl, e1, hg, hdb, .inl e1⟩
theorem suite_ok (g : Gst G cl kt lv N X sc) {body : Sms} {b0 : Stmt} {bs : List Stmt} (hot : hotSs body = true) (hm : mSs G N sc body (b0 :: bs) = true) : ∀ (a : Addr) (oe : Obj) (cls : Value) (d : Option Addr) (pn : List (Addr × Obj)), Zc cls d oe → (∃ vs, oe.data = .fields vs) →
    PSs (X.suite a ((a, oe) :: pn)) (b0 :: bs) ((fun (_ : Addr) (_ : Value) (_ : Option Addr) => LQf X cl W (execs kt body)) a cls d) := fun a oe cls d pn _ _ => hotSs_ok (g.g.gh a _) body hot hm
/-- try: .. except C as n: .. -/
theorem s_tryAs (g : Gst G cl kt lv N X sc) (tk : Takes X W) {ss body : Sms} {sts bs : List Stmt} {b0 : Stmt} {C n : Str} {f : Expr} {pos' : Pos} (hf : mName sc C f = true) (hC : G.exc.contains C = true) (hot : hotSs body = true) (hm : mSs G N sc body (b0 :: bs) = true) (hi : N[i]? = some n) (hl : sc.names.lookup n = some .local)
    (ih : ∀ (W' : WX) (pn : List (Addr × Obj)) (xe : Value → Shared → Prop), Takes (X.tr pn xe) W' → PassesOwn (model X.prog X.w) X.A X.env xe → PSs (X.tr pn xe) sts (LQf X cl W' (execs kt ss))) :
    PS X (.Try sts [.ExceptHandler (some f) (some n) (b0 :: bs) pos'] [] [] pos) (LQf X cl W (exec kt (.try_ ss (.cons C (some i) body .nil)))) := by
  obtain ⟨p, Ca, rfl, e1, hn⟩ := names_of g hf hC
  refine (ps_try_as (i := i) (tb := fun W' => LQf X cl W' (execs kt ss)) (ts := fun _ _ _ => LQf X cl WF (execs kt body)) g.stk g.frm (by rw [g.g.hN]; exact g.g.nd) (by rw [g.g.hN]; exact hi) (show X.env.scope.names.lookup n = _ by rw [g.g.hsc]; exact hl) hn tk ih (suite_ok g hot hm)).imp fun D σ H ⟨env, tab, r, A, q⟩ => ?_
  rw [exec_try] at q
  refine ⟨env, tab, r, A, ?_⟩
  cases he : execs kt ss ⟨env, tab⟩ with
  | nx s => rw [he] at q; exact (show PostF X cl W D r (.nx s) from q)
  | rt y s => rw [he] at q; exact (show PostF X cl W D r (.rt y s) from q)
  | bk s => rw [he] at q; exact (show PostF X cl W D r (.bk s) from q)
  | ct s => rw [he] at q; exact (show PostF X cl W D r (.ct s) from q)
  | st => rw [he] at q; exact (show False from q).elim
  | ex y s =>
    rw [he] at q
    have q : PostF X cl W D r (handle kt (.cons C (some i) body .nil) y s) := q
    rw [handle_cons] at q
    intro C' σ1 H1 hC' A1
    cases hs : kt.sub y C with
    | none => rw [hs] at q; exact q.elim
    | some bb =>
      rw [hs] at q
      obtain ⟨a1, c1, k1, k2, k3⟩ := g.sub y C bb hs
      rw [hC'] at k1
      cases k1
      rw [e1] at k2
      cases k2
      refine ⟨bb, k3, fun hb a ha => ?_, fun hb => ?_⟩
      · subst hb
        refine ⟨s.env.set i none, s.tab, r, A1.drop _, ?_⟩
        dsimp only at q
        cases hk : execs kt body { s with env := s.env.set i none } with
        | nx s2 => rw [hk] at q; exact fun σ2 H2 A2 => (show PostF X cl W D r (.nx { s2 with env := s2.env.set i none }) from q) _ H2 (A2.drop none)
        | bk s2 => rw [hk] at q; exact fun σ2 H2 A2 => (show PostF X cl W D r (.bk { s2 with env := s2.env.set i none }) from q) _ H2 (A2.drop none)
        | ct s2 => rw [hk] at q; exact fun σ2 H2 A2 => (show PostF X cl W D r (.ct { s2 with env := s2.env.set i none }) from q) _ H2 (A2.drop none)
        | rt y s2 => rw [hk] at q; exact (show PostF X cl W D r (.rt y s2) from q)
        | ex y s2 => rw [hk] at q; exact (show False from q).elim
        | st => rw [hk] at q; exact (show False from q).elim
      · subst hb
        exact (show PostF X cl W D r (.ex y s) from q) C' σ1 H1 hC' A1
theorem hds_ok (g : Gst G cl kt lv N X sc) : ∀ (hs : Hds) {hds : List ExceptHandler}, allUn hs = true → mHs G N sc hs hds = true → ∃ l, HdsOk X hds l ∧
    ∀ (D : Ends) (r : Rt) (y : Str) (s : S) (σ : L2.St) (H : Hp) (C' : Addr), X.mg y = some (.ref C') → AbsS X.K cl s.env σ r s.tab H → PostF X cl W D r (handle kt hs y s) → wMany X.K W D l (.ref C') none σ H
  | .nil, hds, _, h => by
    cases hds with
    | cons _ _ => exact absurd h Bool.false_ne_true
    | nil => exact ⟨[], .nil, fun D r y s σ H C' hC' A q => (show PostF X cl W D r (.ex y s) from q) C' σ H hC' A⟩
  | .cons C (some i) body rr, hds, h, _ => absurd h Bool.false_ne_true
  | .cons C none body rr, hds, h, hm => by
    cases hds with
    | nil => exact absurd hm Bool.false_ne_true
    | cons hd hds =>
      cases hd with
      | ExceptHandler f nm bs pos' =>
        cases f with
        | none => exact absurd hm Bool.false_ne_true
        | some f =>
          cases nm with
          | some n =>
            obtain ⟨_, k⟩ := band (show (mName sc C f && G.exc.contains C && !bs.isEmpty && hotSs body && mSs G N sc body bs && false) = true from hm)
            cases k
          | none =>
            obtain ⟨k, k6⟩ := band (show (mName sc C f && G.exc.contains C && !bs.isEmpty && hotSs body && mSs G N sc body bs && mHs G N sc rr hds) = true from hm)
            obtain ⟨k, k5⟩ := band k
            obtain ⟨k, k4⟩ := band k
            obtain ⟨k, k3⟩ := band k
            obtain ⟨k1, k2⟩ := band k
            cases bs with
            | nil => cases k3
            | cons b0 bs =>
              obtain ⟨p, Ca, rfl, e1, hn⟩ := names_of g k1 k2
              obtain ⟨l, hl, hw⟩ := hds_ok g rr (show allUn rr = true from h) k6
              refine ⟨(.ref Ca, fun _ _ _ => LQf X cl W (execs kt body)) :: l, .cons hn (suite_ok g k4 k5) hl, fun D r y s σ H C' hC' A q => ?_⟩
              rw [handle_cons] at q
              cases hs : kt.sub y C with
              | none => rw [hs] at q; exact q.elim
              | some bb =>
                rw [hs] at q
                obtain ⟨a1, c1, k1, k2, k3⟩ := g.sub y C bb hs
                rw [hC'] at k1
                cases k1
                rw [e1] at k2
                cases k2
                refine ⟨bb, k3, fun hb a ha => ?_, fun hb => ?_⟩
                · subst hb
                  refine ⟨s.env, s.tab, r, A, ?_⟩
                  exact q
                · subst hb
                  exact hw D r y s σ H C' hC' A q
theorem s_tryMany (g : Gst G cl kt lv N X sc) (tk : Takes X W) {ss : Sms} {sts : List Stmt} {hs : Hds} {h0 : ExceptHandler} {hds : List ExceptHandler} (hu : allUn hs = true) (hm : mHs G N sc hs (h0 :: hds) = true)
    (ih : ∀ (W' : WX) (pn : List (Addr × Obj)) (xe : Value → Shared → Prop), Takes (X.tr pn xe) W' → PassesOwn (model X.prog X.w) X.A X.env xe → PSs (X.tr pn xe) sts (LQf X cl W' (execs kt ss))) :
    PS X (.Try sts (h0 :: hds) [] [] pos) (LQf X cl W (exec kt (.try_ ss hs))) := by
  obtain ⟨l, hl, hw⟩ := hds_ok (W := W) g hs hu hm
  refine (ps_try_many (tb := fun W' => LQf X cl W' (execs kt ss)) g.stk g.frm tk ih hl).imp fun D σ H ⟨env, tab, r, A, q⟩ => ?_
  rw [exec_try] at q
  refine ⟨env, tab, r, A, ?_⟩
  cases he : execs kt ss ⟨env, tab⟩ with
  | nx s => rw [he] at q; exact (show PostF X cl W D r (.nx s) from q)
  | rt y s => rw [he] at q; exact (show PostF X cl W D r (.rt y s) from q)
  | bk s => rw [he] at q; exact (show PostF X cl W D r (.bk s) from q)
  | ct s => rw [he] at q; exact (show PostF X cl W D r (.ct s) from q)
  | st => rw [he] at q; exact (show False from q).elim
  | ex y s =>
    rw [he] at q
    exact fun C' σ1 H1 hC' A1 => hw D r y s σ1 H1 C' hC' A1 q
/-! ### all of them -/
mutual
theorem sS : ∀ (s : Sm) {X : Cx} {W : WX} {st : Stmt}, Gst G cl kt lv N X sc → Takes X W → PO X → mS G N sc s st = true → PS X st (LQf X cl W (exec kt s))
  | .asg g e, X, W, st, gs, tk, hp, h => by
    cases st <;> first | (cases g <;> exact absurd h Bool.false_ne_true) | skip
    rename_i ts v q
    cases ts with
    | nil => cases g <;> exact absurd h Bool.false_ne_true
    | cons t0 ts =>
      cases ts with
      | cons _ _ => cases g <;> cases t0 <;> exact absurd h Bool.false_ne_true
      | nil =>
        cases g with
        | name i =>
          cases t0 <;> first | exact absurd h Bool.false_ne_true | skip
          rename_i t p
          obtain ⟨k, k4⟩ := band (show (decide (N[i]? = some t) && loc sc t && mE G N sc e v && (swF p v || swT sc t p v)) = true from h)
          obtain ⟨k, k3⟩ := band k
          obtain ⟨k1, k2⟩ := band k
          exact s_asgN gs tk (of_decide_eq_true k1) k2 k3 k4
        | tup gg =>
          obtain ⟨k, k4⟩ := band (show (isTup t0 && mTg N sc (.tup gg) t0 && noTupE v && mE G N sc e v) = true from h)
          obtain ⟨k, k3⟩ := band k
          obtain ⟨k1, k2⟩ := band k
          exact s_asgT gs tk k1 k2 k3 k4
  | .par is es, X, W, st, gs, tk, hp, h => by
    cases st <;> first | exact absurd h Bool.false_ne_true | skip
    rename_i ts v q
    cases ts with
    | nil => exact absurd h Bool.false_ne_true
    | cons t0 ts =>
      cases ts with
      | cons _ _ => cases t0 <;> exact absurd h Bool.false_ne_true
      | nil =>
        cases t0 <;> first | exact absurd h Bool.false_ne_true | skip
        rename_i tt k1 p1
        cases v <;> first | exact absurd h Bool.false_ne_true | skip
        rename_i vs k2 p2
        obtain ⟨k, k6⟩ := band (show (mNs N sc is tt && decide (is.Nodup) && mEs G N sc es vs && decide (tt.length = vs.length) && decide (vs.length ≤ 1000) && (parS tt vs || parT tt vs)) = true from h)
        obtain ⟨k, k5⟩ := band k
        obtain ⟨k, k4⟩ := band k
        obtain ⟨k, k3⟩ := band k
        obtain ⟨k1, k2⟩ := band k
        rcases Bool.or_eq_true_iff.mp k6 with k6 | k6
        · exact s_parS gs tk k1 (of_decide_eq_true k2) k3 k6 (of_decide_eq_true k4)
        · exact s_parT gs tk k1 k3 k6 (of_decide_eq_true k5)
  | .aug i o e, X, W, st, gs, tk, hp, h => by
    cases st <;> first | exact absurd h Bool.false_ne_true | skip
    rename_i t0 o' v q
    cases t0 <;> first | exact absurd h Bool.false_ne_true | skip
    rename_i t p
    obtain ⟨k, k5⟩ := band (show (decide (N[i]? = some t) && loc sc t && decide (opOf o = o') && isAug o && mE G N sc e v) = true from h)
    obtain ⟨k, k4⟩ := band k
    obtain ⟨k, k3⟩ := band k
    obtain ⟨k1, k2⟩ := band k
    exact s_aug gs (of_decide_eq_true k3) k4 (of_decide_eq_true k1) k2 (sE e gs.g tk k5)
  | .setIx b k e, X, W, st, gs, tk, hp, h => by
    cases st <;> first | exact absurd h Bool.false_ne_true | skip
    rename_i ts v q
    cases ts with
    | nil => exact absurd h Bool.false_ne_true
    | cons t0 ts =>
      cases ts with
      | cons _ _ => cases t0 <;> exact absurd h Bool.false_ne_true
      | nil =>
        cases t0 <;> first | exact absurd h Bool.false_ne_true | skip
        rename_i b' k' p
        obtain ⟨m, m4⟩ := band (show (noSl k' && mE G N sc b b' && mE G N sc k k' && mE G N sc e v) = true from h)
        obtain ⟨m, m3⟩ := band m
        obtain ⟨m1, m2⟩ := band m
        exact s_setIx gs m1 (pe_lb (sE b gs.g tk m2) (gs.g.var m2)) (sE k gs.g tk m3) (sE e gs.g tk m4)
  | .augIx b k o e, X, W, st, gs, tk, hp, h => by
    cases st <;> first | exact absurd h Bool.false_ne_true | skip
    rename_i t0 o' v q
    cases t0 <;> first | exact absurd h Bool.false_ne_true | skip
    rename_i b' k' p
    obtain ⟨m, m6⟩ := band (show (noSl k' && decide (opOf o = o') && isAug o && mE G N sc b b' && mE G N sc k k' && mE G N sc e v) = true from h)
    obtain ⟨m, m5⟩ := band m
    obtain ⟨m, m4⟩ := band m
    obtain ⟨m, m3⟩ := band m
    obtain ⟨m1, m2⟩ := band m
    exact s_augIx gs (of_decide_eq_true m2) m3 m1 (pe_lb (sE b gs.g tk m4) (gs.g.var m4)) (sE k gs.g tk m5) (sE e gs.g tk m6)
  | .append b e, X, W, st, gs, tk, hp, h => by
    cases st <;> first | exact absurd h Bool.false_ne_true | skip
    rename_i v q
    obtain ⟨o, a, ap, v, p, rfl, m1, m2, m3, m4, m5, m6⟩ : ∃ o a ap w p, v = .Call (.Attribute o a ap) [w] [] p ∧ a = ("append" : Str) ∧ noCallE o = true ∧ noStar w = true ∧ (ap.endLine == p.line) = true ∧ mE G N sc b o = true ∧ mE G N sc e w = true := by
      cases v <;> first | exact absurd h Bool.false_ne_true | skip
      rename_i f as kws p
      cases f <;> first | exact absurd h Bool.false_ne_true | skip
      rename_i o a ap
      match as, kws, h with
      | [w], [], h =>
        obtain ⟨m, m6⟩ := band (show (decide (a = ("append" : Str)) && noCallE o && noStar w && (ap.endLine == p.line) && mE G N sc b o && mE G N sc e w) = true from h)
        obtain ⟨m, m5⟩ := band m
        obtain ⟨m, m4⟩ := band m
        obtain ⟨m, m3⟩ := band m
        obtain ⟨m1, m2⟩ := band m
        exact ⟨o, a, ap, w, p, rfl, of_decide_eq_true m1, m2, m3, m4, m5, m6⟩
      | [], _, h => exact absurd h Bool.false_ne_true
      | [_], _ :: _, h => exact absurd h Bool.false_ne_true
      | _ :: _ :: _, _, h => exact absurd h Bool.false_ne_true
    subst m1
    exact s_append gs m2 m3 m4 (pe_lb (sE b gs.g tk m5) (gs.g.var m5)) (sE e gs.g tk m6)
  | .expr e, X, W, st, gs, tk, hp, h => by
    cases st <;> first | exact absurd h Bool.false_ne_true | skip
    rename_i v q
    obtain ⟨k1, k2⟩ := band (show (!isComp v && mE G N sc e v) = true from h)
    exact s_expr (sE e gs.g tk k2) (by simpa using k1)
  | .ret e, X, W, st, gs, tk, hp, h => by
    cases st <;> first | exact absurd h Bool.false_ne_true | skip
    rename_i v q
    cases v with
    | none => exact absurd h Bool.false_ne_true
    | some v => exact s_ret (sE e gs.g tk h)
  | .retN, X, W, st, gs, tk, hp, h => by
    cases st <;> first | exact absurd h Bool.false_ne_true | skip
    rename_i v q
    cases v with
    | none => exact s_retN
    | some v => exact absurd h Bool.false_ne_true
  | .iff c a b, X, W, st, gs, tk, hp, h => by
    cases st <;> first | exact absurd h Bool.false_ne_true | skip
    rename_i c' a' b' q
    obtain ⟨k, k3⟩ := band (show (mE G N sc c c' && mSs G N sc a a' && mSs G N sc b b') = true from h)
    obtain ⟨k1, k2⟩ := band k
    exact s_iff (sT c gs.g tk k1) (sSs a gs tk hp k2) (sSs b gs tk hp k3)
  | .for_ g it body, X, W, st, gs, tk, hp, h => by
    cases st <;> first | exact absurd h Bool.false_ne_true | skip
    rename_i tg iter b' els q
    cases els with
    | cons _ _ => exact absurd h Bool.false_ne_true
    | nil =>
      obtain ⟨k, k3⟩ := band (show (mTg N sc g tg && mI G N sc tg it iter && mSs G N sc body b') = true from h)
      obtain ⟨k1, k2⟩ := band k
      exact s_for gs hp k1 k2 (sI it gs.g tk k2) (sSs body gs tk hp k3)
  | .while_ c body, X, W, st, gs, tk, hp, h => by
    cases st <;> first | exact absurd h Bool.false_ne_true | skip
    rename_i c' b' els q
    cases els with
    | cons _ _ => exact absurd h Bool.false_ne_true
    | nil =>
      obtain ⟨k1, k2⟩ := band (show (mE G N sc c c' && mSs G N sc body b') = true from h)
      exact s_while gs hp (sT c gs.g tk k1) (sSs body gs tk hp k2)
  | .raise C m, X, W, st, gs, tk, hp, h => by
    cases st <;> first | exact absurd h Bool.false_ne_true | skip
    rename_i v w q
    obtain ⟨f, j, p2, p, rfl, rfl, k1, k2⟩ : ∃ f j p2 p, v = some (.Call f [.Constant (.str m) j p2] [] p) ∧ w = none ∧ mName sc C f = true ∧ G.exc.contains C = true := by
      match v, w, h with
      | some (.Call f [.Constant (.str m') j p2] [] p), none, h =>
        obtain ⟨k, k3⟩ := band (show (mName sc C f && G.exc.contains C && decide (m = m')) = true from h)
        obtain ⟨k1, k2⟩ := band k
        rw [of_decide_eq_true k3]
        exact ⟨f, j, p2, p, rfl, rfl, k1, k2⟩
    exact s_raise gs tk k1 k2
  | .try_ body hs, X, W, st, gs, tk, hp, h => by
    cases st <;> first | exact absurd h Bool.false_ne_true | skip
    rename_i b' hs' els fin q
    cases els with
    | cons _ _ => exact absurd h Bool.false_ne_true
    | nil =>
      cases fin with
      | cons _ _ => exact absurd h Bool.false_ne_true
      | nil =>
        obtain ⟨k, k3⟩ := band (show (!hs'.isEmpty && (oneAs hs || allUn hs) && mSs G N sc body b' && mHs G N sc hs hs') = true from h)
        obtain ⟨k, k2⟩ := band k
        obtain ⟨k0, k1⟩ := band k
        have ih : ∀ (W' : WX) (pn : List (Addr × Obj)) (xe : Value → Shared → Prop), Takes (X.tr pn xe) W' → PassesOwn (model X.prog X.w) X.A X.env xe → PSs (X.tr pn xe) b' (LQf X cl W' (execs kt body)) := fun W' pn xe tk' hp' => sSs body (gs.tr pn xe) tk' hp' k2
        rcases Bool.or_eq_true_iff.mp k1 with k1 | k1
        · match hs, k1, k3 with
          | .cons C (some i) suite .nil, _, k3 =>
            cases hs' with
            | nil => exact absurd k3 Bool.false_ne_true
            | cons hd hds =>
              cases hd with
              | ExceptHandler f nm bs pos' =>
                cases f with
                | none => exact absurd k3 Bool.false_ne_true
                | some f =>
                  cases nm with
                  | none =>
                    obtain ⟨_, z⟩ := band (show (mName sc C f && G.exc.contains C && !bs.isEmpty && hotSs suite && mSs G N sc suite bs && false) = true from k3)
                    cases z
                  | some n =>
                    obtain ⟨m, m6⟩ := band (show (mName sc C f && G.exc.contains C && !bs.isEmpty && hotSs suite && mSs G N sc suite bs && (isNilH .nil && hds.isEmpty && decide (N[i]? = some n) && decide (sc.names.lookup n = some .local))) = true from k3)
                    obtain ⟨m, m5⟩ := band m
                    obtain ⟨m, m4⟩ := band m
                    obtain ⟨m, m3⟩ := band m
                    obtain ⟨m1, m2⟩ := band m
                    obtain ⟨z, z4⟩ := band m6
                    obtain ⟨z, z3⟩ := band z
                    obtain ⟨z1, z2⟩ := band z
                    cases hds with
                    | cons _ _ => cases z2
                    | nil =>
                      cases bs with
                      | nil => cases m3
                      | cons b0 bs => exact s_tryAs gs tk m1 m2 m4 m5 (of_decide_eq_true z3) (of_decide_eq_true z4) ih
        · cases hs' with
          | nil => cases k0
          | cons hd hds => exact s_tryMany gs tk k1 k3 ih
  | .pass, X, W, st, gs, tk, hp, h => by
    cases st <;> first | exact absurd h Bool.false_ne_true | exact s_pass | skip
    rename_i v q
    cases v <;> first | exact absurd h Bool.false_ne_true | skip
    rename_i c _ _
    cases c <;> first | exact absurd h Bool.false_ne_true | exact s_doc
  | .brk, X, W, st, gs, tk, hp, h => by cases st <;> first | exact absurd h Bool.false_ne_true | exact s_brk
  | .cont, X, W, st, gs, tk, hp, h => by cases st <;> first | exact absurd h Bool.false_ne_true | exact s_cont
theorem sSs : ∀ (s : Sms) {X : Cx} {W : WX} {st : List Stmt}, Gst G cl kt lv N X sc → Takes X W → PO X → mSs G N sc s st = true → PSs X st (LQf X cl W (execs kt s))
  | .nil, X, W, st, gs, tk, hp, h => by
    cases st with
    | nil => exact s_nil
    | cons _ _ => exact absurd h Bool.false_ne_true
  | .cons s r, X, W, st, gs, tk, hp, h => by
    cases st with
    | nil => exact absurd h Bool.false_ne_true
    | cons x xs =>
      obtain ⟨m1, m2⟩ := band (show (mS G N sc s x && mSs G N sc r xs) = true from h)
      exact s_cons (sS s gs tk hp m1) (sSs r gs tk hp m2)
end
end
end SH

end
section
set_option Elab.async false
set_option linter.all false
set_option maxRecDepth 100000
set_option maxHeartbeats 4000000
namespace SH
open PySem PySem.Spec L2 PyProof.Rows

/-! ### a program of ours, told of the written one -/
def scB (N ps : List Str) (sc : Scope) : Bool := (sc.kind == .function) && !sc.isCoroutine && !sc.isGenerator && decide N.Nodup && decide (N.take ps.length = ps) && ps.all (fun x => decide (sc.names.lookup x = some .local) || decide (sc.names.lookup x = some .cell)) && sc.names.all fun y => !(y.2 == .free)
theorem scB_ok {N ps : List Str} {sc : Scope} (h : scB N ps sc = true) : FnScope N ps sc := by
  obtain ⟨h, h7⟩ := band (show ((sc.kind == .function) && !sc.isCoroutine && !sc.isGenerator && decide N.Nodup && decide (N.take ps.length = ps) && ps.all (fun x => decide (sc.names.lookup x = some .local) || decide (sc.names.lookup x = some .cell)) && sc.names.all fun y => !(y.2 == .free)) = true from h)
  obtain ⟨h, h6⟩ := band h
  obtain ⟨h, h5⟩ := band h
  obtain ⟨h, h4⟩ := band h
  obtain ⟨h, h3⟩ := band h
  obtain ⟨h1, h2⟩ := band h
  refine ⟨?_, by simpa using h2, by simpa using h3, of_decide_eq_true h4, of_decide_eq_true h5, fun x hx => ?_, fun y hy => ?_⟩
  · cases hk : sc.kind <;> rw [hk] at h1 <;> first | rfl | exact absurd h1 (by decide)
  · have := List.all_eq_true.mp h6 x hx
    rcases Bool.or_eq_true_iff.mp this with q | q
    · exact .inl (of_decide_eq_true q)
    · exact .inr (of_decide_eq_true q)
  · have := List.all_eq_true.mp h7 y hy
    intro e
    rw [e] at this
    exact absurd this (by decide)
structure DefF (G : Gs) (K : PySem.W.Frag) (mg : Str → Option Value) (g : Fn) (fa : Addr) (fd : FuncData) : Prop where
  ex : ∃ (params : Arguments) (body : List Stmt) (scope : Scope), FunD K g.name g.qual params body scope [] [] fa fd ∧ scB g.N g.ps scope = true ∧ mSs G g.N scope g.body body = true
  bd : Binds K fd g.ps []
  mg : mg g.name = some (.ref fa)
structure Facts (G : Gs) (K : PySem.W.Frag) (mg : Str → Option Value) (p : Prg) : Prop where
  bt : ∀ x, G.bt.contains x = true → mg x = none
  con : ∀ x d, p.con x = some d → ∃ u v, mg x = some u ∧ RelV v u ∧ ∀ Z al, Rp K Z al d v
  exc : ∀ x, G.exc.contains x = true → ∃ C, mg x = some (.ref C) ∧ PySem.W.keepIn K (.ref C) = true ∧ PySem.W.excIn K C He.veBase "ValueError.__new__" = true ∧ PySem.W.subIn K (.ref C) (.type "BaseException") = some true ∧ PySem.W.typeIn K (.ref C) = some (.type "type")
  sub : ∀ x C b, p.sub x C = some b → ∃ a c, mg x = some (.ref a) ∧ mg C = some (.ref c) ∧ PySem.W.exmOne K (.ref a) (.ref c) = some b
  fns : ∀ f n, (f, n) ∈ G.fns → ∃ g, p.get f = some g ∧ g.ps.length = n
  defs : ∀ f g, p.get f = some g → g.name = f ∧ ∃ fa fd, DefF G K mg g fa fd
section
variable {G : Gs} {P : Program} {w : World} {K : PySem.W.Frag} {mg : Str → Option Value} {base : Heap} {cl : Str → Addr} {p : Prg}
theorem def_ok (F : Facts G K mg p) : ∀ (n : Nat) {g : Fn} {fa : Addr} {fd : FuncData}, p.get g.name = some g → DefF G K mg g fa fd → FnOk P w K mg base (L2.CX P w) n fa fd g.ps (spOf K mg cl (p.call n) g.name)
  | 0, g, fa, fd, hg, D => ⟨fun vs H Q E ⟨ds, r, tab, hl, A, q⟩ => False.elim q, fun A outer s H args us vs Q E _ _ _ _ ⟨ds, r, tab, hl, A, q⟩ => False.elim q⟩
  | n + 1, g, fa, fd, hg, D => by
    obtain ⟨params, body, scope, FD, hsc, hm⟩ := D.ex
    have S := scB_ok hsc
    have hcall : ∀ ds tab, p.call (n + 1) g.name ds tab = runF (p.kt n) g ds tab := fun ds tab => by
      show (match p.get g.name with
        | some g => runF (p.kt n) g ds tab
        | none => .st) = _
      rw [hg]
    refine FD.ok S (fun vs H Q E ⟨ds, r, tab, hl, A, q⟩ => ?_) (fun cdv A outer s H vs Q E hr ⟨ds, r, tab, hl, AA, q⟩ => ?_)
    · rw [hcall] at q
      unfold runF at q
      by_cases hlen : ds.length = g.ps.length
      · rw [← hl, hlen]
      · rw [if_neg hlen] at q
        exact False.elim q
    · rw [hcall] at q
      unfold runF at q
      by_cases hlen : ds.length = g.ps.length
      · rw [if_pos hlen] at q
        refine ⟨LQf (cxOf (L2.CX P w) P w K mg base g.N g.qual scope fa cdv A outer s H E) cl (fun cls d _ H => E cls d H) (execs (p.kt n) g.body), sSs (N := g.N) (G := G) (lv := n) (sc := scope) g.body ⟨⟨rfl, S.nd, rfl, rfl, hr, fun x h => ?_, F.bt, F.con, fun f m hf => ?_⟩, S.kind, rfl, rfl, fun x hx => ?_, F.sub⟩ (takes_of rfl rfl rfl rfl) (passes_of rfl) hm, ?_⟩
        · unfold loc at h
          split at h
          · rename_i e
            exact ⟨.inl e, .inl rfl⟩
          · rename_i e
            exact ⟨.inr e, .inl rfl⟩
          · cases h
        · obtain ⟨g', h1, h2⟩ := F.fns f m hf
          obtain ⟨h3, fa', fd', D'⟩ := F.defs f g' h1
          subst h3
          have ok := def_ok F n h1 D'
          obtain ⟨_, _, _, FD', _, _⟩ := D'.ex
          exact ⟨fa', fd', g'.ps, h2, D'.mg, FD'.kp, D'.bd, ok⟩
        · obtain ⟨C, e1, e2, e3, e4, e5⟩ := F.exc x hx
          exact ⟨C, e1, e2, e3, raises_own e4 e5⟩
        · have st : SlotR (startE g.N.length ds) (L2.start g.N vs) ((ds.map Ev.d).zip vs) := by
            unfold startE L2.start
            rw [← hl]
            exact SlotR.start hl _
          refine ⟨startE g.N.length ds, tab, r, ⟨_, st, AA⟩, ?_⟩
          cases he : execs (p.kt n) g.body ⟨startE g.N.length ds, tab⟩ with
          | nx s => rw [he] at q; exact fun σ H A => q _ _ (A.abs.addD (x := .non) fun Z al => .non)
          | rt e s => rw [he] at q; exact fun v H A => q v H A
          | bk s => rw [he] at q; exact q.elim
          | ct s => rw [he] at q; exact q.elim
          | ex x s => rw [he] at q; exact fun C σ H hC A => q C H hC A.abs
          | st => rw [he] at q; exact q.elim
      · rw [if_neg hlen] at q
        exact False.elim q
end
end SH

end
section
set_option Elab.async false
set_option linter.all false
set_option maxRecDepth 100000
set_option maxHeartbeats 4000000
namespace SH
open PySem PySem.Spec L2 PyProof.Rows

/-! ### facts off the head's Hook -/
def subO (l : List (Str × Str × Bool)) (x C : Str) : Option Bool := (l.find? fun q => q.1 == x && q.2.1 == C).map fun q => q.2.2
def conO (l : List (Str × Int)) (x : Str) : Option D := (l.lookup x).map D.int
def prgOf (fns : List Fn) (ci : List (Str × Int)) (sb : List (Str × Str × Bool)) : Prg := ⟨fns, conO ci, subO sb⟩
def faOf (G : Gs) (fns : List Fn) (ci : List (Str × Int)) (sb : List (Str × Str × Bool)) : List He.Fa :=
  G.bt.map .free ++ (ci.map fun q => .int q.1 q.2) ++ G.exc.map .glo ++ G.exc.map .exc ++ (sb.map fun q => .exm q.1 q.2.1 q.2.2) ++ fns.map fun g => .glo g.name
def dOk (G : Gs) (g : Fn) (d : He.DefD) : Bool := decide (d.at_ = (g.name, none)) && decide (d.name = g.name) && decide (d.qual = g.qual) && d.dfl.isEmpty && d.kwd.isEmpty && scB g.N g.ps d.scope && mSs G g.N d.scope g.body d.body
def dsOk (G : Gs) : List Fn → List He.DefD → Bool
  | [], [] => true
  | g :: gs, d :: ds => dOk G g d && dsOk G gs ds
  | _, _ => false
def gOk (G : Gs) (fns : List Fn) (sb : List (Str × Str × Bool)) : Bool :=
  (G.fns.all fun q => (match fns.find? fun g => g.name == q.1 with
    | some g => g.ps.length == q.2
    | none => false)) && sb.all fun q => G.exc.contains q.1 && G.exc.contains q.2.1
inductive BdAll : List Fn → List He.DefD → Prop
  | nil : BdAll [] []
  | cons {g : Fn} {d : He.DefD} {gs : List Fn} {ds : List He.DefD} (h : ∀ (kV doc pm : Value) (an : Option Addr) (cdv ct : Value) (us : List Value), us.length = g.ps.length → bindArgs (PySem.W.fnOf d.name d.qual d.params d.body d.scope .none kV doc pm an cdv ct) ⟨us, []⟩ = pure (g.ps.zip us)) (r : BdAll gs ds) : BdAll (g :: gs) (d :: ds)
theorem BdAll.get : ∀ {gs : List Fn} {ds : List He.DefD}, BdAll gs ds → ∀ {i : Nat} {g : Fn} {d : He.DefD}, gs[i]? = some g → ds[i]? = some d →
    ∀ (kV doc pm : Value) (an : Option Addr) (cdv ct : Value) (us : List Value), us.length = g.ps.length → bindArgs (PySem.W.fnOf d.name d.qual d.params d.body d.scope .none kV doc pm an cdv ct) ⟨us, []⟩ = pure (g.ps.zip us)
  | _, _, .nil, _, _, _, h, _ => by simp at h
  | _, _, .cons h r, 0, _, _, e1, e2 => by
    simp at e1 e2
    subst e1 e2
    exact h
  | _, _, .cons h r, i + 1, _, _, e1, e2 => BdAll.get r (by simpa using e1) (by simpa using e2)
theorem dsOk_get {G : Gs} : ∀ {gs : List Fn} {ds : List He.DefD}, dsOk G gs ds = true → ∀ {i : Nat} {g : Fn}, gs[i]? = some g → ∃ d, ds[i]? = some d ∧ dOk G g d = true
  | [], [], _, _, _, h => by simp at h
  | g :: gs, d :: ds, h, 0, g', e => by
    simp at e
    subst e
    exact ⟨d, rfl, (band (show (dOk G g d && dsOk G gs ds) = true from h)).1⟩
  | g :: gs, d :: ds, h, i + 1, g', e => dsOk_get (band (show (dOk G g d && dsOk G gs ds) = true from h)).2 (i := i) (by simpa using e)
  | [], _ :: _, h, _, _, _ => absurd h Bool.false_ne_true
  | _ :: _, [], h, _, _, _ => absurd h Bool.false_ne_true
section
variable {G : Gs} {K : PySem.W.Frag} {mg : Str → Option Value} {h : Heap} {fns : List Fn} {ds : List He.DefD} {ci : List (Str × Int)} {sb : List (Str × Str × Bool)}
theorem says_all {fa : List He.Fa} {fn : List He.DefD} (c : He.SaysD fa fn K) {f : He.Fa} (hf : f ∈ fa) : f.ok K = true := by
  obtain ⟨i, hi⟩ := List.mem_iff_getElem?.mp hf
  exact c.fact i hi
theorem fn_at (G0 : dsOk G fns ds = true) (B : BdAll fns ds) (X : K.In h) (M : h.Ns mainGlobals mg) (c : He.SaysD (faOf G fns ci sb) ds K) {g : Fn} (hg : g ∈ fns) : ∃ fa fd, DefF G K mg g fa fd ∧ fa = He.ga K g.name ∧ ∃ d : He.DefD, d.name = g.name ∧ FunD K d.name d.qual d.params d.body d.scope [] [] fa fd ∧
    ∀ (kV doc pm : Value) (an : Option Addr) (cdv ct : Value) (us : List Value), us.length = g.ps.length → bindArgs (PySem.W.fnOf d.name d.qual d.params d.body d.scope .none kV doc pm an cdv ct) ⟨us, []⟩ = pure (g.ps.zip us) := by
  obtain ⟨i, hi⟩ := List.mem_iff_getElem?.mp hg
  obtain ⟨d, hd, ok⟩ := dsOk_get G0 hi
  obtain ⟨k, k7⟩ := band (show (decide (d.at_ = (g.name, none)) && decide (d.name = g.name) && decide (d.qual = g.qual) && d.dfl.isEmpty && d.kwd.isEmpty && scB g.N g.ps d.scope && mSs G g.N d.scope g.body d.body) = true from ok)
  obtain ⟨k, k6⟩ := band k
  obtain ⟨k, k5⟩ := band k
  obtain ⟨k, k4⟩ := band k
  obtain ⟨k, k3⟩ := band k
  obtain ⟨k1, k2⟩ := band k
  have k1 := of_decide_eq_true k1
  have k2 := of_decide_eq_true k2
  have k3 := of_decide_eq_true k3
  obtain ⟨fd, F⟩ := c.def_ i hd
  have e4 : d.dvs K = [] := by unfold He.DefD.dvs; rw [List.isEmpty_iff.mp k4]; rfl
  have e5 : d.kws K = [] := by unfold He.DefD.kws; rw [List.isEmpty_iff.mp k5]; rfl
  have e6 : He.fAd K d.at_ = He.ga K g.name := by rw [k1]; rfl
  rw [e4, e5, e6] at F
  have F0 := F
  have bd := B.get hi hd
  have mgf : mg g.name = some (.ref (He.ga K g.name)) := He.glo_ok X M (says_all c (f := .glo g.name) (List.mem_append_right _ (List.mem_map.mpr ⟨g, hg, rfl⟩)))
  refine ⟨_, fd, ⟨⟨d.params, d.body, d.scope, ?_, k6, k7⟩, F.bindsN bd, mgf⟩, rfl, d, k2, F0, bd⟩
  rw [k2, k3] at F
  exact F
theorem facts_of (G0 : dsOk G fns ds = true) (G1 : gOk G fns sb = true) (B : BdAll fns ds) (X : K.In h) (M : h.Ns mainGlobals mg) (c : He.SaysD (faOf G fns ci sb) ds K) : Facts G K mg (prgOf fns ci sb) := by
  obtain ⟨g1, g2⟩ := band (show ((G.fns.all fun q => (match fns.find? fun g => g.name == q.1 with
    | some g => g.ps.length == q.2
    | none => false)) && sb.all fun q => G.exc.contains q.1 && G.exc.contains q.2.1) = true from G1)
  have glo : ∀ x, G.exc.contains x = true → mg x = some (.ref (He.ga K x)) := fun x hx => He.glo_ok X M (says_all c (f := .glo x) (by
    have := List.contains_iff_mem.mp hx
    simp [faOf, this]))
  refine ⟨fun x hx => ?_, fun x d hx => ?_, fun x hx => ?_, fun x C b hx => ?_, fun f n hf => ?_, fun f g hg => ?_⟩
  · have hx := List.contains_iff_mem.mp hx
    exact He.free_ok X M (says_all c (f := .free x) (by simp [faOf, hx]))
  · have hx : (ci.lookup x).map SH.D.int = some d := hx
    cases hl : ci.lookup x with
    | none => rw [hl] at hx; cases hx
    | some i =>
      rw [hl] at hx
      cases hx
      have hm := PySem.mem_of_lookup hl
      obtain ⟨t, ht⟩ := He.int_ok X M (says_all c (f := .int x i) (by
        unfold faOf
        simp only [List.mem_append, List.mem_map]
        exact .inl (.inl (.inl (.inl (.inr ⟨_, hm, rfl⟩))))))
      exact ⟨_, .int i, ht, ⟨t, rfl⟩, fun Z al => .int i⟩
  · have hm := List.contains_iff_mem.mp hx
    obtain ⟨e1, e2, e3, e4⟩ := He.exc_ok (says_all c (f := .exc x) (by simp [faOf, hm]))
    exact ⟨_, glo x hx, e2, e1, e3, e4⟩
  · have hx : (sb.find? fun q => q.1 == x && q.2.1 == C).map (fun q => q.2.2) = some b := hx
    cases hl : sb.find? fun q => q.1 == x && q.2.1 == C with
    | none => rw [hl] at hx; cases hx
    | some q =>
      rw [hl] at hx
      cases hx
      have hm := List.mem_of_find?_eq_some hl
      have hq := List.find?_some hl
      obtain ⟨q1, q2⟩ := band (show (q.1 == x && q.2.1 == C) = true from hq)
      have q1 := beq_iff_eq.mp q1
      have q2 := beq_iff_eq.mp q2
      subst q1 q2
      obtain ⟨z1, z2⟩ := band (List.all_eq_true.mp g2 q hm)
      refine ⟨_, _, glo _ z1, glo _ z2, He.exm_ok (says_all c (f := .exm q.1 q.2.1 q.2.2) ?_)⟩
      unfold faOf
      simp only [List.mem_append, List.mem_map]
      exact .inl (.inr ⟨q, hm, rfl⟩)
  · have := List.all_eq_true.mp g1 (f, n) hf
    cases hl : fns.find? fun g => g.name == f with
    | none => rw [hl] at this; cases this
    | some g =>
      rw [hl] at this
      exact ⟨g, hl, beq_iff_eq.mp this⟩
  · have hl : fns.find? (fun g => g.name == f) = some g := hg
    have hm := List.mem_of_find?_eq_some hl
    have hq := List.find?_some hl
    have hn := beq_iff_eq.mp (show (g.name == f) = true from hq)
    obtain ⟨fa, fd, D, _⟩ := fn_at G0 B X M c hm
    exact ⟨hn, fa, fd, D⟩
/-- what the law's def promises of a script's list -/
theorem law_sp {cl : Str → Addr} {p : Prg} {n : Nat} {f : Str} {tab : List Ob} {H : Hp} {a : Addr} {ns : List Int} (hS : SqL K H a (ns.map V.int)) (e : p.call n f [.kl (ns.map SH.D.int)] [] = .ok (.d (.bl true)) tab) :
    spOf K mg cl (p.call n) f [.ref a] H (fun v _ => v = .bl true) fun _ _ _ => False := by
  refine ⟨[.kl (ns.map SH.D.int)], [], [], rfl, ?_, ?_⟩
  · refine ⟨H, [], fun _ _ e => e, fun q hq => ?_, rfl, fun n a ob e => by simp at e, (show ([] : List Addr).Nodup from List.nodup_nil), fun b hb => ?_⟩
    · have hq : q = (Ev.d (.kl (ns.map SH.D.int)), V.ref a) := by simpa using hq
      subst hq
      exact .d (.kl hS (Rps.ofInts ns))
    · exact absurd (show b ∈ ([] : List Addr) from hb) (by simp)
  · rw [e]
    intro v H' A
    obtain ⟨Z, al, A⟩ := A
    exact A.bl_ (by simp)
/-- exceptions told more widely -/
theorem fnOk_cx {P : Program} {w : World} {base : Heap} {CX CX' : CXT} {k : Nat} {f : Addr} {fd : FuncData} {ps : List Str} {sp : Sp} (F : FnOk P w K mg base CX k f fd ps sp) (hh : ∀ a b c d e g, CX a b c d e g → CX' a b c d e g) : FnOk P w K mg base CX' k f fd ps sp :=
  ⟨F.len, fun A outer s H args us vs Q E hr e0 hb hv hs => codeAny_mono (F.run A outer s H args us vs Q E hr e0 hb hv hs) fun r s' hq => by
    cases r with
    | error e => exact hh _ _ _ _ _ _ hq
    | ok fl => cases fl <;> exact hq⟩
end
end SH

end
section
set_option Elab.async false
set_option linter.all false
set_option maxRecDepth 100000
namespace SH
open PySem PySem.Spec L2
/-! ### frames: what is done with a result -/
def kBo (r : R Ev) : R Bo := r.bind fun x s => .ok (.ev x) s
def kSo (r : R Ev) : R (Ev × Option Nat) := r.bind fun x s => .ok (x, none) s
def kPt (r : R Ev) : R (Option Int) := r.bind fun x s => (match x with
    | .d (.int i) => .ok (some i) s
    | _ => .st)
def kCt (r : R Ev) : R Bool := r.bind fun x s => .ofO (toBl x) s
@[simp] theorem kBo_ok {x s} : kBo (.ok x s) = .ok (.ev x) s := rfl
@[simp] theorem kSo_ok {x s} : kSo (.ok x s) = .ok (x, none) s := rfl
@[simp] theorem kPt_ok {i s} : kPt (.ok (.d (.int i)) s) = .ok (some i) s := rfl
@[simp] theorem kCt_ok {b s} : kCt (.ok (.d (.bl b)) s) = .ok b s := rfl
@[simp] theorem bo_var {i f s} : bo (.var i) f s = (match (s.env[i]?).join with
    | some _ => .ok (.sl i) s
    | none => .st) := rfl
@[simp] theorem so_var {i f s} : so (.var i) f s = kSo (f s) := rfl
@[simp] theorem pto_var {i f s} : pto (.var i) f s = kPt (f s) := rfl
@[simp] theorem cto_var {i f s} : cto (.var i) f s = kCt (f s) := rfl
@[simp] theorem bo_mv {i f s} : bo (.mv i) f s = kBo (f s) := rfl
@[simp] theorem so_mv {i f s} : so (.mv i) f s = kSo (f s) := rfl
@[simp] theorem pto_mv {i f s} : pto (.mv i) f s = kPt (f s) := rfl
@[simp] theorem cto_mv {i f s} : cto (.mv i) f s = kCt (f s) := rfl
@[simp] theorem bo_bor {i f s} : bo (.bor i) f s = kBo (f s) := rfl
@[simp] theorem so_bor {i f s} : so (.bor i) f s = borOf i s := rfl
@[simp] theorem pto_bor {i f s} : pto (.bor i) f s = kPt (f s) := rfl
@[simp] theorem cto_bor {i f s} : cto (.bor i) f s = kCt (f s) := rfl
@[simp] theorem bo_non {f s} : bo (.non) f s = kBo (f s) := rfl
@[simp] theorem so_non {f s} : so (.non) f s = kSo (f s) := rfl
@[simp] theorem pto_non {f s} : pto (.non) f s = kPt (f s) := rfl
@[simp] theorem cto_non {f s} : cto (.non) f s = kCt (f s) := rfl
@[simp] theorem bo_bl {b f s} : bo (.bl b) f s = kBo (f s) := rfl
@[simp] theorem so_bl {b f s} : so (.bl b) f s = kSo (f s) := rfl
@[simp] theorem pto_bl {b f s} : pto (.bl b) f s = kPt (f s) := rfl
@[simp] theorem cto_bl {b f s} : cto (.bl b) f s = kCt (f s) := rfl
@[simp] theorem bo_int {b f s} : bo (.int b) f s = kBo (f s) := rfl
@[simp] theorem so_int {b f s} : so (.int b) f s = kSo (f s) := rfl
@[simp] theorem pto_int {b f s} : pto (.int b) f s = kPt (f s) := rfl
@[simp] theorem cto_int {b f s} : cto (.int b) f s = kCt (f s) := rfl
@[simp] theorem bo_str {b f s} : bo (.str b) f s = kBo (f s) := rfl
@[simp] theorem so_str {b f s} : so (.str b) f s = kSo (f s) := rfl
@[simp] theorem pto_str {b f s} : pto (.str b) f s = kPt (f s) := rfl
@[simp] theorem cto_str {b f s} : cto (.str b) f s = kCt (f s) := rfl
@[simp] theorem bo_glob {x f s} : bo (.glob x) f s = kBo (f s) := rfl
@[simp] theorem so_glob {x f s} : so (.glob x) f s = kSo (f s) := rfl
@[simp] theorem pto_glob {x f s} : pto (.glob x) f s = kPt (f s) := rfl
@[simp] theorem cto_glob {x f s} : cto (.glob x) f s = kCt (f s) := rfl
@[simp] theorem bo_op {o a b f s} : bo (.op o a b) f s = kBo (f s) := rfl
@[simp] theorem so_op {o a b f s} : so (.op o a b) f s = kSo (f s) := rfl
@[simp] theorem pto_op {o a b f s} : pto (.op o a b) f s = kPt (f s) := rfl
@[simp] theorem cto_op {o a b f s} : cto (.op o a b) f s = kCt (f s) := rfl
@[simp] theorem bo_neg {a f s} : bo (.neg a) f s = kBo (f s) := rfl
@[simp] theorem so_neg {a f s} : so (.neg a) f s = kSo (f s) := rfl
@[simp] theorem pto_neg {a f s} : pto (.neg a) f s = kPt (f s) := rfl
@[simp] theorem cto_neg {a f s} : cto (.neg a) f s = kCt (f s) := rfl
@[simp] theorem bo_cmp {o a b f s} : bo (.cmp o a b) f s = kBo (f s) := rfl
@[simp] theorem so_cmp {o a b f s} : so (.cmp o a b) f s = kSo (f s) := rfl
@[simp] theorem pto_cmp {o a b f s} : pto (.cmp o a b) f s = kPt (f s) := rfl
@[simp] theorem cto_cmp {o a b f s} : cto (.cmp o a b) f s = kCt (f s) := rfl
@[simp] theorem bo_chain {o p a b c f s} : bo (.chain o p a b c) f s = kBo (f s) := rfl
@[simp] theorem so_chain {o p a b c f s} : so (.chain o p a b c) f s = kSo (f s) := rfl
@[simp] theorem pto_chain {o p a b c f s} : pto (.chain o p a b c) f s = kPt (f s) := rfl
@[simp] theorem cto_chain {o p a b c f s} : cto (.chain o p a b c) f s = kCt (f s) := rfl
@[simp] theorem bo_isN {n a f s} : bo (.isN n a) f s = kBo (f s) := rfl
@[simp] theorem so_isN {n a f s} : so (.isN n a) f s = kSo (f s) := rfl
@[simp] theorem pto_isN {n a f s} : pto (.isN n a) f s = kPt (f s) := rfl
@[simp] theorem cto_isN {n a f s} : cto (.isN n a) f s = kCt (f s) := rfl
@[simp] theorem bo_and_ {a b f s} : bo (.and_ a b) f s = kBo (f s) := rfl
@[simp] theorem so_and_ {a b f s} : so (.and_ a b) f s = kSo (f s) := rfl
@[simp] theorem pto_and_ {a b f s} : pto (.and_ a b) f s = kPt (f s) := rfl
@[simp] theorem cto_and_ {a b f s} : cto (.and_ a b) f s = kCt (f s) := rfl
@[simp] theorem bo_or_ {a b f s} : bo (.or_ a b) f s = kBo (f s) := rfl
@[simp] theorem so_or_ {a b f s} : so (.or_ a b) f s = kSo (f s) := rfl
@[simp] theorem pto_or_ {a b f s} : pto (.or_ a b) f s = kPt (f s) := rfl
@[simp] theorem cto_or_ {a b f s} : cto (.or_ a b) f s = kCt (f s) := rfl
@[simp] theorem bo_not_ {a f s} : bo (.not_ a) f s = kBo (f s) := rfl
@[simp] theorem so_not_ {a f s} : so (.not_ a) f s = kSo (f s) := rfl
@[simp] theorem pto_not_ {a f s} : pto (.not_ a) f s = kPt (f s) := rfl
@[simp] theorem cto_not_ {a f s} : cto (.not_ a) f s = kCt (f s) := rfl
@[simp] theorem bo_ite_ {c a b f s} : bo (.ite_ c a b) f s = kBo (f s) := rfl
@[simp] theorem so_ite_ {c a b f s} : so (.ite_ c a b) f s = kSo (f s) := rfl
@[simp] theorem pto_ite_ {c a b f s} : pto (.ite_ c a b) f s = kPt (f s) := rfl
@[simp] theorem cto_ite_ {c a b f s} : cto (.ite_ c a b) f s = kCt (f s) := rfl
@[simp] theorem bo_tup {es f s} : bo (.tup es) f s = kBo (f s) := rfl
@[simp] theorem so_tup {es f s} : so (.tup es) f s = kSo (f s) := rfl
@[simp] theorem pto_tup {es f s} : pto (.tup es) f s = kPt (f s) := rfl
@[simp] theorem cto_tup {es f s} : cto (.tup es) f s = kCt (f s) := rfl
@[simp] theorem bo_lst {es f s} : bo (.lst es) f s = kBo (f s) := rfl
@[simp] theorem so_lst {es f s} : so (.lst es) f s = kSo (f s) := rfl
@[simp] theorem pto_lst {es f s} : pto (.lst es) f s = kPt (f s) := rfl
@[simp] theorem cto_lst {es f s} : cto (.lst es) f s = kCt (f s) := rfl
@[simp] theorem bo_ix {a b f s} : bo (.ix a b) f s = kBo (f s) := rfl
@[simp] theorem so_ix {a b f s} : so (.ix a b) f s = kSo (f s) := rfl
@[simp] theorem pto_ix {a b f s} : pto (.ix a b) f s = kPt (f s) := rfl
@[simp] theorem cto_ix {a b f s} : cto (.ix a b) f s = kCt (f s) := rfl
@[simp] theorem bo_sl {a l h f s} : bo (.sl a l h) f s = kBo (f s) := rfl
@[simp] theorem so_sl {a l h f s} : so (.sl a l h) f s = kSo (f s) := rfl
@[simp] theorem pto_sl {a l h f s} : pto (.sl a l h) f s = kPt (f s) := rfl
@[simp] theorem cto_sl {a l h f s} : cto (.sl a l h) f s = kCt (f s) := rfl
@[simp] theorem bo_nop {f s} : bo (.nop) f s = kBo (f s) := rfl
@[simp] theorem so_nop {f s} : so (.nop) f s = kSo (f s) := rfl
@[simp] theorem pto_nop {f s} : pto .nop f s = .ok none s := rfl
@[simp] theorem cto_nop_ {f s} : cto .nop f s = .ok true s := rfl
@[simp] theorem bo_call {g es f s} : bo (.call g es) f s = kBo (f s) := rfl
@[simp] theorem so_call {g es f s} : so (.call g es) f s = kSo (f s) := rfl
@[simp] theorem pto_call {g es f s} : pto (.call g es) f s = kPt (f s) := rfl
@[simp] theorem cto_call {g es f s} : cto (.call g es) f s = kCt (f s) := rfl
@[simp] theorem bo_bi {b es f s} : bo (.bi b es) f s = kBo (f s) := rfl
@[simp] theorem so_bi {b es f s} : so (.bi b es) f s = kSo (f s) := rfl
@[simp] theorem pto_bi {b es f s} : pto (.bi b es) f s = kPt (f s) := rfl
@[simp] theorem cto_bi {b es f s} : cto (.bi b es) f s = kCt (f s) := rfl
@[simp] theorem bo_isi {a T f s} : bo (.isi a T) f s = kBo (f s) := rfl
@[simp] theorem so_isi {a T f s} : so (.isi a T) f s = kSo (f s) := rfl
@[simp] theorem pto_isi {a T f s} : pto (.isi a T) f s = kPt (f s) := rfl
@[simp] theorem cto_isi {a T f s} : cto (.isi a T) f s = kCt (f s) := rfl
@[simp] theorem bo_isit {a T f s} : bo (.isit a T) f s = kBo (f s) := rfl
@[simp] theorem so_isit {a T f s} : so (.isit a T) f s = kSo (f s) := rfl
@[simp] theorem pto_isit {a T f s} : pto (.isit a T) f s = kPt (f s) := rfl
@[simp] theorem cto_isit {a T f s} : cto (.isit a T) f s = kCt (f s) := rfl
@[simp] theorem bo_comp {o g it c e f s} : bo (.comp o g it c e) f s = kBo (f s) := rfl
@[simp] theorem so_comp {o g it c e f s} : so (.comp o g it c e) f s = kSo (f s) := rfl
@[simp] theorem pto_comp {o g it c e f s} : pto (.comp o g it c e) f s = kPt (f s) := rfl
@[simp] theorem cto_comp {o g it c e f s} : cto (.comp o g it c e) f s = kCt (f s) := rfl
@[simp] theorem bo_pop {i k f s} : bo (.pop i k) f s = kBo (f s) := rfl
@[simp] theorem so_pop {i k f s} : so (.pop i k) f s = kSo (f s) := rfl
@[simp] theorem pto_pop {i k f s} : pto (.pop i k) f s = kPt (f s) := rfl
@[simp] theorem cto_pop {i k f s} : cto (.pop i k) f s = kCt (f s) := rfl
@[simp] theorem bo_share {e f s} : bo (.share e) f s = kBo (f s) := rfl
@[simp] theorem so_share {e f s} : so (.share e) f s = kSo (f s) := rfl
@[simp] theorem pto_share {e f s} : pto (.share e) f s = kPt (f s) := rfl
@[simp] theorem cto_share {e f s} : cto (.share e) f s = kCt (f s) := rfl
section
variable {k : Kt} {o o2 : Bop} {q q2 : Cop} {a b c e l h : Ex} {es : Exs} {x y : Bo} {u v : Ev} {s : S} {n : Bool} {f : Str} {T : Ty} {Ts : List Ty} {B : Bi} {i : Nat} {g : Tg} {it it2 : Gen} {own : List (Str × Nat)} {ds : List D} {bs : List Bo} {z w : Option Int}
@[simp] theorem ev_non : eval k .non s = .ok (.d .non) s := rfl
@[simp] theorem ev_bl {b} : eval k (.bl b) s = .ok (.d (.bl b)) s := rfl
@[simp] theorem ev_int {b} : eval k (.int b) s = .ok (.d (.int b)) s := rfl
@[simp] theorem ev_str {b} : eval k (.str b) s = .ok (.d (.str b)) s := rfl
@[simp] theorem ev_var : eval k (.var i) s = varOf i s := rfl
@[simp] theorem ev_mv : eval k (.mv i) s = mvOf i s := rfl
def kGl (s : S) : Option D → R Ev
  | some d => .ok (.d d) s
  | none => .st
@[simp] theorem kGl_some {d} : kGl s (some d) = .ok (.d d) s := rfl
@[simp] theorem ev_glob : eval k (.glob f) s = kGl s (k.con f) := rfl
def kOp2 (o : Bop) (x : Bo) (r : R Bo) : R Ev := r.bind fun y s => (match rsv s x, rsv s y with
    | some x, some y => .ofO (binD o x y s.tab) s
    | _, _ => .st)
def kOp (k : Kt) (o : Bop) (b : Ex) (r : R Bo) : R Ev := r.bind fun x s => kOp2 o x (bo b (eval k b) s)
@[simp] theorem ev_op : eval k (.op o a b) s = kOp k o b (bo a (eval k a) s) := rfl
@[simp] theorem kOp_ok : kOp k o b (.ok x s) = kOp2 o x (bo b (eval k b) s) := rfl
@[simp] theorem kOp2_ok : kOp2 o x (.ok y s) = (match rsv s x, rsv s y with
    | some x, some y => .ofO (binD o x y s.tab) s
    | _, _ => .st) := rfl
def kNeg (r : R Ev) : R Ev := r.bind fun x s => (match x with
    | .d (.int i) => .ok (.d (.int (-i))) s
    | _ => .st)
@[simp] theorem ev_neg : eval k (.neg a) s = kNeg (eval k a s) := rfl
@[simp] theorem kNeg_ok {j : Int} : kNeg (.ok (.d (.int j)) s) = .ok (.d (.int (-j))) s := rfl
def kCmp2 (o : Cop) (x : Bo) (r : R Bo) : R Ev := r.bind fun y s => (match rsv s x, rsv s y with
    | some x, some y => .ofO ((cmpD o x y s.tab).map fun b => .d (.bl b)) s
    | _, _ => .st)
def kCmp (k : Kt) (o : Cop) (b : Ex) (r : R Bo) : R Ev := r.bind fun x s => kCmp2 o x (bo b (eval k b) s)
@[simp] theorem ev_cmp : eval k (.cmp q a b) s = kCmp k q b (bo a (eval k a) s) := rfl
@[simp] theorem kCmp_ok : kCmp k q b (.ok x s) = kCmp2 q x (bo b (eval k b) s) := rfl
@[simp] theorem kCmp2_ok : kCmp2 q x (.ok y s) = (match rsv s x, rsv s y with
    | some x, some y => .ofO ((cmpD q x y s.tab).map fun b => .d (.bl b)) s
    | _, _ => .st) := rfl
def kCh3 (o : Cop) (y : Ev) (r : R Bo) : R Ev := r.bind fun z s => (match rsv s z with
    | some z => .ofO ((cmpD o y z s.tab).map fun b => .d (.bl b)) s
    | none => .st)
def kCh2b (k : Kt) (o2 : Cop) (c : Ex) (y : D) (s : S) : Option Bool → R Ev
  | some true => kCh3 o2 (.d y) (bo c (eval k c) s)
  | some false => .ok (.d (.bl false)) s
  | none => .st
def kCh2 (k : Kt) (o1 o2 : Cop) (c : Ex) (x : Bo) (r : R Ev) : R Ev := r.bind fun y s => (match rsv s x, y with
    | some x, .d y => kCh2b k o2 c y s (cmpD o1 x (.d y) s.tab)
    | _, _ => .st)
def kCh (k : Kt) (o1 o2 : Cop) (b c : Ex) (r : R Bo) : R Ev := r.bind fun x s => kCh2 k o1 o2 c x (eval k b s)
theorem ev_chain_ : eval k (.chain q q2 a b c) s = kCh k q q2 b c (bo a (eval k a) s) := rfl
@[simp] theorem ev_chain : eval k (.chain q q2 a b c) s = kCh k q q2 b c (bo a (eval k a) s) := ev_chain_
@[simp] theorem kCh_ok : kCh k q q2 b c (.ok x s) = kCh2 k q q2 c x (eval k b s) := rfl
@[simp] theorem kCh2_ok {y : D} : kCh2 k q q2 c x (.ok (.d y) s) = (match rsv s x with
    | some x => kCh2b k q2 c y s (cmpD q x (.d y) s.tab)
    | none => .st) := by
  show (match rsv s x, Ev.d y with
    | some x, .d y => kCh2b k q2 c y s (cmpD q x (.d y) s.tab)
    | _, _ => .st) = _
  cases rsv s x <;> rfl
@[simp] theorem kCh2b_t {y : D} : kCh2b k q2 c y s (some true) = kCh3 q2 (.d y) (bo c (eval k c) s) := rfl
@[simp] theorem kCh2b_f {y : D} : kCh2b k q2 c y s (some false) = .ok (.d (.bl false)) s := rfl
@[simp] theorem kCh3_ok : kCh3 q u (.ok x s) = (match rsv s x with
    | some z => .ofO ((cmpD q u z s.tab).map fun b => .d (.bl b)) s
    | none => .st) := rfl
def kIsN (n : Bool) (r : R Ev) : R Ev := r.bind fun x s => .ok (.d (.bl (if n then !isNon x else isNon x))) s
@[simp] theorem ev_isN : eval k (.isN n a) s = kIsN n (eval k a s) := rfl
@[simp] theorem kIsN_ok : kIsN n (.ok u s) = .ok (.d (.bl (if n then !isNon u else isNon u))) s := rfl
def kBl2 (r : R Ev) : R Ev := r.bind fun y s => (match toBl y with
      | some b => .ok (.d (.bl b)) s
      | none => .st)
@[simp] theorem kBl2_ok {d : Bool} : kBl2 (.ok (.d (.bl d)) s) = .ok (.d (.bl d)) s := rfl
def kAnd (k : Kt) (b : Ex) (r : R Ev) : R Ev := r.bind fun x s => (match toBl x with
    | some true => kBl2 (eval k b s)
    | some false => .ok (.d (.bl false)) s
    | none => .st)
@[simp] theorem ev_and : eval k (.and_ a b) s = kAnd k b (eval k a s) := rfl
@[simp] theorem kAnd_t : kAnd k b (.ok (.d (.bl true)) s) = kBl2 (eval k b s) := rfl
@[simp] theorem kAnd_f : kAnd k b (.ok (.d (.bl false)) s) = .ok (.d (.bl false)) s := rfl
def kOr (k : Kt) (b : Ex) (r : R Ev) : R Ev := r.bind fun x s => (match toBl x with
    | some false => kBl2 (eval k b s)
    | some true => .ok (.d (.bl true)) s
    | none => .st)
@[simp] theorem ev_or : eval k (.or_ a b) s = kOr k b (eval k a s) := rfl
@[simp] theorem kOr_f : kOr k b (.ok (.d (.bl false)) s) = kBl2 (eval k b s) := rfl
@[simp] theorem kOr_t : kOr k b (.ok (.d (.bl true)) s) = .ok (.d (.bl true)) s := rfl
def kNot (r : R Ev) : R Ev := r.bind fun x s => (match toBl x with
    | some b => .ok (.d (.bl (!b))) s
    | none => .st)
@[simp] theorem ev_not : eval k (.not_ a) s = kNot (eval k a s) := rfl
@[simp] theorem kNot_ok {d : Bool} : kNot (.ok (.d (.bl d)) s) = .ok (.d (.bl (!d))) s := rfl
def kIte (k : Kt) (a b : Ex) (r : R Ev) : R Ev := r.bind fun x s => (match toBl x with
    | some true => eval k a s
    | some false => eval k b s
    | none => .st)
@[simp] theorem ev_ite : eval k (.ite_ c a b) s = kIte k a b (eval k c s) := rfl
@[simp] theorem kIte_t : kIte k a b (.ok (.d (.bl true)) s) = eval k a s := rfl
@[simp] theorem kIte_f : kIte k a b (.ok (.d (.bl false)) s) = eval k b s := rfl
def kTup (r : R (List D)) : R Ev := r.bind fun xs s => if xs.length ≤ lim then .ok (.d (.tup xs)) s else .st
@[simp] theorem ev_tup : eval k (.tup es) s = kTup (evals k es s) := rfl
@[simp] theorem kTup_ok : kTup (.ok ds s) = if ds.length ≤ lim then .ok (.d (.tup ds)) s else .st := rfl
def kLst (r : R (List D)) : R Ev := r.bind fun xs s => if xs.length ≤ lim then .ok (.o xs) s else .st
@[simp] theorem ev_lst : eval k (.lst es) s = kLst (evals k es s) := rfl
@[simp] theorem kLst_ok : kLst (.ok ds s) = if ds.length ≤ lim then .ok (.o ds) s else .st := rfl
def kIx2 (x : Bo) (r : R Bo) : R Ev := r.bind fun y s => (match rsv s x, rsv s y with
    | some x, some y => .ofO (ixD x y s.tab) s
    | _, _ => .st)
def kIx (k : Kt) (b : Ex) (r : R Bo) : R Ev := r.bind fun x s => kIx2 x (bo b (eval k b) s)
@[simp] theorem ev_ix : eval k (.ix a b) s = kIx k b (bo a (eval k a) s) := rfl
@[simp] theorem kIx_ok : kIx k b (.ok x s) = kIx2 x (bo b (eval k b) s) := rfl
@[simp] theorem kIx2_ok : kIx2 x (.ok y s) = (match rsv s x, rsv s y with
    | some x, some y => .ofO (ixD x y s.tab) s
    | _, _ => .st) := rfl
def kSl3 (x : Bo) (z : Option Int) (r : R (Option Int)) : R Ev := r.bind fun h s => (match rsv s x with
    | some x => .ofO (slD x z h s.tab) s
    | none => .st)
def kSl2 (k : Kt) (x : Bo) (h : Ex) (r : R (Option Int)) : R Ev := r.bind fun z s => kSl3 x z (pto h (eval k h) s)
def kSl (k : Kt) (l h : Ex) (r : R Bo) : R Ev := r.bind fun x s => kSl2 k x h (pto l (eval k l) s)
@[simp] theorem ev_sl : eval k (.sl a l h) s = kSl k l h (bo a (eval k a) s) := rfl
@[simp] theorem kSl_ok : kSl k l h (.ok x s) = kSl2 k x h (pto l (eval k l) s) := rfl
@[simp] theorem kSl2_ok : kSl2 k x h (.ok z s) = kSl3 x z (pto h (eval k h) s) := rfl
@[simp] theorem kSl3_ok : kSl3 x z (.ok w s) = (match rsv s x with
    | some x => .ofO (slD x z w s.tab) s
    | none => .st) := rfl
def kCal2 (s : S) : Rc → R Ev
  | .ok e tab => .ok e { s with tab := tab }
  | .ex x tab => .ex x { s with tab := tab }
  | .st => .st
@[simp] theorem kCal2_ok {tab} : kCal2 s (.ok u tab) = .ok u { s with tab := tab } := rfl
@[simp] theorem kCal2_ex {tab x} : kCal2 s (.ex x tab) = .ex x { s with tab := tab } := rfl
def kCal (k : Kt) (f : Str) (r : R (List D)) : R Ev := r.bind fun xs s => kCal2 s (k.call f xs s.tab)
@[simp] theorem ev_call : eval k (.call f es) s = kCal k f (evals k es s) := rfl
@[simp] theorem kCal_ok : kCal k f (.ok ds s) = kCal2 s (k.call f ds s.tab) := rfl
def kBi (B : Bi) (r : R (List Bo)) : R Ev := r.bind fun xs s => (match rsvs s xs with
    | some xs => .ofO (biD B xs s.tab) s
    | none => .st)
@[simp] theorem ev_bi : eval k (.bi B es) s = kBi B (evbs k es s) := rfl
@[simp] theorem kBi_ok : kBi B (.ok bs s) = (match rsvs s bs with
    | some xs => .ofO (biD B xs s.tab) s
    | none => .st) := rfl
def kIsi (T : Ty) (r : R Bo) : R Ev := r.bind fun x s => (match rsv s x with
    | some x => .ofO ((isT s.tab x T).map fun b => .d (.bl b)) s
    | none => .st)
@[simp] theorem ev_isi : eval k (.isi a T) s = kIsi T (bo a (eval k a) s) := rfl
@[simp] theorem kIsi_ok : kIsi T (.ok x s) = (match rsv s x with
    | some x => .ofO ((isT s.tab x T).map fun b => .d (.bl b)) s
    | none => .st) := rfl
def kComp (k : Kt) (own : List (Str × Nat)) (g : Tg) (c e : Ex) (r : R Src) : R Ev := r.bind fun w s =>
      if w.its.length ≤ lim then
        (loopC (bindG g) (own.map (·.2)) (cto c (eval k c)) (eval k e) w.its [] s).bind (compEnd w.src)
      else .st
@[simp] theorem ev_comp : eval k (.comp own g it c e) s = kComp k own g c e (evIt k it s) := rfl
theorem kComp_ok {w : Src} : kComp k own g c e (.ok w s) = if w.its.length ≤ lim then
        (loopC (bindG g) (own.map (·.2)) (cto c (eval k c)) (eval k e) w.its [] s).bind (compEnd w.src)
      else .st := rfl
def kShare (r : R Ev) : R Ev := r.bind fun x s => (match x with
    | .o xs => .ok (.d (.ref s.tab.length)) { s with tab := s.tab ++ [.lst xs] }
    | .od ks xs => .ok (.d (.ref s.tab.length)) { s with tab := s.tab ++ [.dic ks xs] }
    | .d _ => .st)
@[simp] theorem ev_share : eval k (.share a) s = kShare (eval k a s) := rfl
@[simp] theorem kShare_o : kShare (.ok (.o ds) s) = .ok (.d (.ref s.tab.length)) { s with tab := s.tab ++ [.lst ds] } := rfl
def kPop (i : Nat) (r : R Ev) : R Ev := r.bind fun x s => (match x, (s.env[i]?).join with
      | .d (.int j), some (.o xs) => popAt i xs j s
      | _, _ => .st)
/-! rows of terms -/
@[simp] theorem evs_nil : evals k .nil s = .ok [] s := rfl
def kEs2 (x : D) (r : R (List D)) : R (List D) := r.bind fun xs s => .ok (x :: xs) s
def kEs (k : Kt) (es : Exs) (r : R Ev) : R (List D) := r.bind fun x s => kEs2 x.toD (evals k es s)
@[simp] theorem evs_cons : evals k (.cons e es) s = kEs k es (eval k e s) := rfl
@[simp] theorem kEs_ok : kEs k es (.ok u s) = kEs2 u.toD (evals k es s) := rfl
@[simp] theorem kEs2_ok {d : D} : kEs2 d (.ok ds s) = .ok (d :: ds) s := rfl
@[simp] theorem ebs_nil : evbs k .nil s = .ok [] s := rfl
def kEb2 (x : Bo) (r : R (List Bo)) : R (List Bo) := r.bind fun xs s => .ok (x :: xs) s
def kEb (k : Kt) (es : Exs) (r : R Bo) : R (List Bo) := r.bind fun x s => kEb2 x (evbs k es s)
@[simp] theorem ebs_cons : evbs k (.cons e es) s = kEb k es (bo e (eval k e) s) := rfl
@[simp] theorem kEb_ok : kEb k es (.ok x s) = kEb2 x (evbs k es s) := rfl
@[simp] theorem kEb2_ok : kEb2 x (.ok bs s) = .ok (x :: bs) s := rfl
@[simp] theorem eve_nil : evalsE k .nil s = .ok [] s := rfl
def kEe2 (x : Ev) (r : R (List Ev)) : R (List Ev) := r.bind fun xs s => .ok (x :: xs) s
def kEe (k : Kt) (es : Exs) (r : R Ev) : R (List Ev) := r.bind fun x s => kEe2 x (evalsE k es s)
@[simp] theorem eve_cons : evalsE k (.cons e es) s = kEe k es (eval k e s) := rfl
@[simp] theorem kEe_ok : kEe k es (.ok u s) = kEe2 u (evalsE k es s) := rfl
@[simp] theorem kEe2_ok {us : List Ev} : kEe2 u (.ok us s) = .ok (u :: us) s := rfl
/-! sources -/
def kSeq (r : R (Ev × Option Nat)) : R Src := r.bind fun x s => .ofO ((itemsOf s.tab x.1).map fun xs => ⟨xs, [x]⟩) s
@[simp] theorem it_seq : evIt k (.seq e) s = kSeq (so e (eval k e) s) := rfl
@[simp] theorem kSeq_ok {x} : kSeq (.ok x s) = .ofO ((itemsOf s.tab x.1).map fun xs => ⟨xs, [x]⟩) s := rfl
def kEnum (r : R (Ev × Option Nat)) : R Src := r.bind fun x s => if isL x.1 || isTp x.1 then .ofO ((itemsOf s.tab x.1).map fun xs => ⟨enumD xs, [x]⟩) s else .st
@[simp] theorem it_enum : evIt k (.enum e) s = kEnum (so e (eval k e) s) := rfl
@[simp] theorem kEnum_ok {x} : kEnum (.ok x s) = if isL x.1 || isTp x.1 then .ofO ((itemsOf s.tab x.1).map fun xs => ⟨enumD xs, [x]⟩) s else .st := rfl
def kZip2 (x : Ev × Option Nat) (r : R (Ev × Option Nat)) : R Src := r.bind fun y s => (match itemsOf s.tab x.1, itemsOf s.tab y.1 with
    | some xs, some ys => if (isL x.1 && isL y.1) || (isTp x.1 && isTp y.1) then .ok ⟨zipD xs ys, [y, x]⟩ s else .st
    | _, _ => .st)
def kZip (k : Kt) (b : Ex) (r : R (Ev × Option Nat)) : R Src := r.bind fun x s => kZip2 x (so b (eval k b) s)
@[simp] theorem it_zip : evIt k (.zip a b) s = kZip k b (so a (eval k a) s) := rfl
@[simp] theorem kZip_ok {x} : kZip k b (.ok x s) = kZip2 x (so b (eval k b) s) := rfl
@[simp] theorem kZip2_ok {x y} : kZip2 x (.ok y s) = (match itemsOf s.tab x.1, itemsOf s.tab y.1 with
    | some xs, some ys => if (isL x.1 && isL y.1) || (isTp x.1 && isTp y.1) then .ok ⟨zipD xs ys, [y, x]⟩ s else .st
    | _, _ => .st) := rfl
def kR1 (r : R Ev) : R Src := r.bind fun x s => (match x with
    | .d (.int j) => if -4611686018427387904 ≤ j ∧ j < 4611686018427387904 then .ok ⟨rngD 0 j, []⟩ s else .st
    | _ => .st)
@[simp] theorem it_rng1 : evIt k (.rng1 a) s = kR1 (eval k a s) := rfl
@[simp] theorem kR1_ok {j : Int} : kR1 (.ok (.d (.int j)) s) = if -4611686018427387904 ≤ j ∧ j < 4611686018427387904 then .ok ⟨rngD 0 j, []⟩ s else .st := rfl
def kR22 (x : Ev) (r : R Ev) : R Src := r.bind fun y s => (match x, y with
    | .d (.int i), .d (.int j) => if -4611686018427387904 ≤ i ∧ i < 4611686018427387904 ∧ -4611686018427387904 ≤ j ∧ j < 4611686018427387904 then .ok ⟨rngD i j, []⟩ s else .st
    | _, _ => .st)
def kR2 (k : Kt) (b : Ex) (r : R Ev) : R Src := r.bind fun x s => kR22 x (eval k b s)
@[simp] theorem it_rng2 : evIt k (.rng2 a b) s = kR2 k b (eval k a s) := rfl
@[simp] theorem kR2_ok : kR2 k b (.ok u s) = kR22 u (eval k b s) := rfl
@[simp] theorem kR22_ok {i j : Int} : kR22 (.d (.int i)) (.ok (.d (.int j)) s) = if -4611686018427387904 ≤ i ∧ i < 4611686018427387904 ∧ -4611686018427387904 ≤ j ∧ j < 4611686018427387904 then .ok ⟨rngD i j, []⟩ s else .st := rfl
/-! statements -/
variable {ss ts : Sms} {sm : Sm} {hs : Hds} {is : List Nat} {us : List Ev}
def kSq (k : Kt) (r : Sms) (f : F) : F := f.seq fun s => execs k r s
@[simp] theorem xs_nil : execs k .nil s = .nx s := rfl
@[simp] theorem xs_cons : execs k (.cons sm ss) s = kSq k ss (exec k sm s) := rfl
@[simp] theorem kSq_nx : kSq k ss (.nx s) = execs k ss s := rfl
@[simp] theorem kSq_rt : kSq k ss (.rt u s) = .rt u s := rfl
@[simp] theorem kSq_bk : kSq k ss (.bk s) = .bk s := rfl
@[simp] theorem kSq_ct : kSq k ss (.ct s) = .ct s := rfl
@[simp] theorem kSq_ex {x} : kSq k ss (.ex x s) = .ex x s := rfl
def kAsg (g : Tg) (r : R Ev) : F := r.bindF fun x s => (match g, x with
    | .name i, x => if i < s.env.length then .nx { s with env := s.env.set i (some x) } else .st
    | g, .d x => (match bindG g x s.env with
      | some env => .nx { s with env := env }
      | none => .st)
    | _, _ => .st)
@[simp] theorem x_asg : exec k (.asg g e) s = kAsg g (eval k e s) := rfl
@[simp] theorem kAsg_n : kAsg (.name i) (.ok u s) = if i < s.env.length then .nx { s with env := s.env.set i (some u) } else .st := rfl
@[simp] theorem kAsg_t {gs : Tgs} {d : D} : kAsg (.tup gs) (.ok (.d d) s) = (match bindG (.tup gs) d s.env with
      | some env => .nx { s with env := env }
      | none => .st) := rfl
@[simp] theorem kAsg_ex {x} : kAsg g (.ex x s) = .ex x s := rfl
def kPar (is : List Nat) (r : R (List Ev)) : F := r.bindF fun xs s => (match setAll is xs s.env with
    | some env => .nx { s with env := env }
    | none => .st)
@[simp] theorem x_par : exec k (.par is es) s = kPar is (evalsE k es s) := rfl
@[simp] theorem kPar_ok : kPar is (.ok us s) = (match setAll is us s.env with
    | some env => .nx { s with env := env }
    | none => .st) := rfl
def kAug (i : Nat) (o : Bop) (r : R Ev) : F := r.bindF fun y s => (match (s.env[i]?).join, y with
      | some (.d (.int a)), .d (.int b) => (match augI o a b with
        | some k => .nx { s with env := s.env.set i (some (.d (.int k))) }
        | none => .st)
      | _, _ => .st)
@[simp] theorem x_aug : exec k (.aug i o e) s = (match (s.env[i]?).join with
    | some _ => kAug i o (eval k e s)
    | none => .st) := rfl
@[simp] theorem kAug_ok : kAug i o (.ok u s) = (match (s.env[i]?).join, u with
      | some (.d (.int a)), .d (.int b) => (match augI o a b with
        | some k => .nx { s with env := s.env.set i (some (.d (.int k))) }
        | none => .st)
      | _, _ => .st) := rfl
def kSi3 (x : Bo) (y : D) (r : R Ev) : F := r.bindF fun j s => putL x s (setAt j y)
def kSi2 (k : Kt) (c : Ex) (y : D) (r : R Bo) : F := r.bindF fun x s => kSi3 x y (eval k c s)
def kSi (k : Kt) (b c : Ex) (r : R Ev) : F := r.bindF fun y s => kSi2 k c y.toD (bo b (eval k b) s)
@[simp] theorem x_setIx : exec k (.setIx b c e) s = kSi k b c (eval k e s) := rfl
@[simp] theorem kSi_ok : kSi k b c (.ok u s) = kSi2 k c u.toD (bo b (eval k b) s) := rfl
@[simp] theorem kSi2_ok {d} : kSi2 k c d (.ok x s) = kSi3 x d (eval k c s) := rfl
@[simp] theorem kSi3_ok {d} : kSi3 x d (.ok u s) = putL x s (setAt u d) := rfl
def kAi3 (x : Bo) (n a : Int) (o : Bop) (r : R Ev) : F := r.bindF fun y s => (match y with
        | .d (.int b) => (match augI o a b with
          | some c => putL x s (setAt (.d (.int n)) (.int c))
          | none => .st)
        | _ => .st)
def kAi2 (k : Kt) (e : Ex) (o : Bop) (x : Bo) (r : R Ev) : F := r.bindF fun j s => (match (rsv s x).bind (lstOf s.tab), j with
    | some xs, .d (.int n) => (match atI xs n with
      | some (.int a) => kAi3 x n a o (eval k e s)
      | _ => .st)
    | _, _ => .st)
def kAi (k : Kt) (c e : Ex) (o : Bop) (r : R Bo) : F := r.bindF fun x s => kAi2 k e o x (eval k c s)
@[simp] theorem x_augIx : exec k (.augIx b c o e) s = kAi k c e o (bo b (eval k b) s) := rfl
@[simp] theorem kAi_ok : kAi k c e o (.ok x s) = kAi2 k e o x (eval k c s) := rfl
@[simp] theorem kAi2_ok : kAi2 k e o x (.ok u s) = (match (rsv s x).bind (lstOf s.tab), u with
    | some xs, .d (.int n) => (match atI xs n with
      | some (.int a) => kAi3 x n a o (eval k e s)
      | _ => .st)
    | _, _ => .st) := rfl
@[simp] theorem kAi3_ok {n a b : Int} : kAi3 x n a o (.ok (.d (.int b)) s) = (match augI o a b with
          | some c => putL x s (setAt (.d (.int n)) (.int c))
          | none => .st) := rfl
def kAp2 (x : Bo) (r : R Ev) : F := r.bindF fun y s => putL x s fun xs => if xs.length < lim then some (xs ++ [y.toD]) else none
def kAp (k : Kt) (e : Ex) (r : R Bo) : F := r.bindF fun x s => (match (rsv s x).bind (lstOf s.tab) with
    | some _ => kAp2 x (eval k e s)
    | none => .st)
@[simp] theorem x_append : exec k (.append b e) s = kAp k e (bo b (eval k b) s) := rfl
@[simp] theorem kAp_ok : kAp k e (.ok x s) = (match (rsv s x).bind (lstOf s.tab) with
    | some _ => kAp2 x (eval k e s)
    | none => .st) := rfl
@[simp] theorem kAp2_ok : kAp2 x (.ok u s) = putL x s fun xs => if xs.length < lim then some (xs ++ [u.toD]) else none := rfl
def kEx (r : R Ev) : F := r.bindF fun _ s => .nx s
@[simp] theorem x_expr : exec k (.expr e) s = kEx (eval k e s) := rfl
@[simp] theorem kEx_ok : kEx (.ok u s) = .nx s := rfl
@[simp] theorem kEx_ex {x} : kEx (.ex x s) = .ex x s := rfl
def kRt (r : R Ev) : F := r.bindF fun x s => .rt x s
@[simp] theorem x_ret : exec k (.ret e) s = kRt (eval k e s) := rfl
@[simp] theorem kRt_ok : kRt (.ok u s) = .rt u s := rfl
@[simp] theorem kRt_ex {x} : kRt (.ex x s) = .ex x s := rfl
@[simp] theorem x_retN : exec k .retN s = .rt (.d .non) s := rfl
@[simp] theorem x_pass : exec k .pass s = .nx s := rfl
@[simp] theorem x_brk : exec k .brk s = .bk s := rfl
@[simp] theorem x_cont : exec k .cont s = .ct s := rfl
@[simp] theorem x_raise {C m} : exec k (.raise C m) s = .ex C s := rfl
def kIf (k : Kt) (ss ts : Sms) (r : R Ev) : F := r.bindF fun x s => (match toBl x with
    | some true => execs k ss s
    | some false => execs k ts s
    | none => .st)
theorem x_iff_ : exec k (.iff c ss ts) s = kIf k ss ts (eval k c s) := by
  show (R.bind (eval k c s) fun x s => .ofO (toBl x) s).bindF (fun t s => if t then execs k ss s else execs k ts s) = _
  unfold kIf
  cases eval k c s with
  | ok x s =>
    show (R.ofO (toBl x) s).bindF _ = (match toBl x with
      | some true => execs k ss s
      | some false => execs k ts s
      | none => .st)
    cases toBl x with
    | none => rfl
    | some b => cases b <;> rfl
  | ex x s => rfl
  | st => rfl
@[simp] theorem x_iff : exec k (.iff c ss ts) s = kIf k ss ts (eval k c s) := x_iff_
@[simp] theorem kIf_t : kIf k ss ts (.ok (.d (.bl true)) s) = execs k ss s := rfl
@[simp] theorem kIf_f : kIf k ss ts (.ok (.d (.bl false)) s) = execs k ts s := rfl
@[simp] theorem kIf_ex {x} : kIf k ss ts (.ex x s) = .ex x s := rfl
def kFor (k : Kt) (g : Tg) (ss : Sms) (r : R Src) : F := r.bindF fun w s => if w.src.all (fun p => p.2.isNone) then forL (bindG g) (execs k ss) w.its s else .st
@[simp] theorem x_for : exec k (.for_ g it ss) s = kFor k g ss (evIt k it s) := rfl
@[simp] theorem kFor_ok {w : Src} : kFor k g ss (.ok w s) = if w.src.all (fun p => p.2.isNone) then forL (bindG g) (execs k ss) w.its s else .st := rfl
@[simp] theorem x_while : exec k (.while_ c ss) s = whileL (tst k c) (execs k ss) wfuel s := rfl
def kTry (k : Kt) (hs : Hds) : F → F
  | .ex x s => handle k hs x s
  | f => f
@[simp] theorem x_try : exec k (.try_ ss hs) s = kTry k hs (execs k ss s) := by
  show (match execs k ss s with
    | .ex x s => handle k hs x s
    | f => f) = _
  cases execs k ss s <;> rfl
@[simp] theorem kTry_nx : kTry k hs (.nx s) = .nx s := rfl
@[simp] theorem kTry_rt : kTry k hs (.rt u s) = .rt u s := rfl
@[simp] theorem kTry_bk : kTry k hs (.bk s) = .bk s := rfl
@[simp] theorem kTry_ct : kTry k hs (.ct s) = .ct s := rfl
@[simp] theorem kTry_ex {x} : kTry k hs (.ex x s) = handle k hs x s := rfl
def kHd (i : Nat) : F → F
  | .nx s => .nx { s with env := s.env.set i none }
  | .bk s => .bk { s with env := s.env.set i none }
  | .ct s => .ct { s with env := s.env.set i none }
  | .rt e s => .rt e s
  | _ => .st
def kH (k : Kt) (nm : Option Nat) (ss : Sms) (hs : Hds) (x : Str) (s : S) : Option Bool → F
  | some true => (match nm with
    | none => execs k ss s
    | some i => kHd i (execs k ss { s with env := s.env.set i none }))
  | some false => handle k hs x s
  | none => .st
theorem h_cons_ {C nm x} : handle k (.cons C nm ss hs) x s = kH k nm ss hs x s (k.sub x C) := by
  show (match k.sub x C with
    | some true => (match nm with
      | none => execs k ss s
      | some i => (match execs k ss { s with env := s.env.set i none } with
        | .nx s => .nx { s with env := s.env.set i none }
        | .bk s => .bk { s with env := s.env.set i none }
        | .ct s => .ct { s with env := s.env.set i none }
        | .rt e s => .rt e s
        | _ => .st))
    | some false => handle k hs x s
    | none => .st) = _
  cases k.sub x C with
  | none => rfl
  | some b =>
    cases b with
    | false => rfl
    | true =>
      cases nm with
      | none => rfl
      | some i =>
        show (match execs k ss { s with env := s.env.set i none } with
          | .nx s => F.nx { s with env := s.env.set i none }
          | .bk s => .bk { s with env := s.env.set i none }
          | .ct s => .ct { s with env := s.env.set i none }
          | .rt e s => .rt e s
          | _ => .st) = kHd i (execs k ss { s with env := s.env.set i none })
        cases execs k ss { s with env := s.env.set i none } <;> rfl
@[simp] theorem h_cons {C nm x} : handle k (.cons C nm ss hs) x s = kH k nm ss hs x s (k.sub x C) := h_cons_
@[simp] theorem h_nil {x} : handle k .nil x s = .ex x s := rfl
@[simp] theorem kH_t {x} : kH k none ss hs x s (some true) = execs k ss s := rfl
@[simp] theorem kH_ti {x} : kH k (some i) ss hs x s (some true) = kHd i (execs k ss { s with env := s.env.set i none }) := rfl
@[simp] theorem kH_f {nm x} : kH k nm ss hs x s (some false) = handle k hs x s := rfl
@[simp] theorem kHd_nx : kHd i (.nx s) = .nx { s with env := s.env.set i none } := rfl
@[simp] theorem kHd_rt : kHd i (.rt u s) = .rt u s := rfl
@[simp] theorem kHd_bk : kHd i (.bk s) = .bk { s with env := s.env.set i none } := rfl
@[simp] theorem kHd_ct : kHd i (.ct s) = .ct { s with env := s.env.set i none } := rfl
@[simp] theorem kCt_ok' {d : Bool} : kCt (.ok (.d (.bl d)) s) = .ok d s := rfl
end
@[simp] theorem rsv_sl {s i} : rsv s (.sl i) = (s.env[i]?).join := rfl
@[simp] theorem rsv_ev {s e} : rsv s (.ev e) = some e := rfl
@[simp] theorem rsvs_nil {s} : rsvs s [] = some [] := rfl
@[simp] theorem rsvs_cons {s b r} : rsvs s (b :: r) = (rsv s b).bind fun e => (rsvs s r).map (e :: ·) := rfl
@[simp] theorem toD_d {x} : (Ev.d x).toD = x := rfl
@[simp] theorem toD_o {x} : (Ev.o x).toD = .lst x := rfl
@[simp] theorem toBl_bl {b} : toBl (.d (.bl b)) = some b := rfl
@[simp] theorem isNon_non : isNon (.d .non) = true := rfl
@[simp] theorem kt_call {p n} : (Prg.kt p n).call = p.call n := rfl
@[simp] theorem kt_con {p n} : (Prg.kt p n).con = p.con := rfl
@[simp] theorem kt_sub {p n} : (Prg.kt p n).sub = p.sub := rfl
theorem call_of {p : Prg} {f : Str} {g : Fn} (n : Nat) (h : p.get f = some g) (ds : List D) (tab : List Ob) : p.call (n + 1) f ds tab = runF (p.kt n) g ds tab := by
  show (match p.get f with
    | some g => runF (p.kt n) g ds tab
    | none => .st) = _
  rw [h]
/-- a statement done, on to the rest -/
theorem step {k : Kt} {a : Sm} {r : Sms} {s s' : S} (h : exec k a s = .nx s') : execs k (.cons a r) s = execs k r s' := by
  show (exec k a s).seq _ = _
  rw [h]
  rfl
@[simp] theorem intsOf_map {ns : List Int} : intsOf (ns.map D.int) = some ns := by
  induction ns with
  | nil => rfl
  | cons n r ih =>
    show (intsOf (r.map D.int)).map (n :: ·) = _
    rw [ih]
    rfl
@[simp] theorem blsOf_map {ns : List Bool} : blsOf (ns.map D.bl) = some ns := by
  induction ns with
  | nil => rfl
  | cons n r ih =>
    show (blsOf (r.map D.bl)).map (n :: ·) = _
    rw [ih]
    rfl
end SH

end
section
set_option Elab.async false
set_option linter.all false
set_option maxRecDepth 100000
set_option maxHeartbeats 4000000
namespace SH
open PySem PySem.Spec L2
/-! ### the draws that the laws share -/
def s__law_taken_0 : Sm := (.asg (.name 3) (.op .mod (.bi .int (.cons (.ix (.var 0) (.int 3)) .nil)) (.var 1)))
def s__law_taken_1 : Sm := (.setIx (.var 0) (.int 3) (.op .fdiv (.ix (.var 0) (.int 3)) (.var 1)))
def s__law_taken_2 : Sm := (.ret (.mv 3))
def b__law_taken_0 : Sms := (.cons s__law_taken_0 (.cons s__law_taken_1 (.cons s__law_taken_2 .nil)))
def s__law_taken_3 : Sm := (.iff (.cmp .gt (.ix (.var 0) (.int 3)) (.int 0))
 b__law_taken_0
 .nil)
def s__law_taken_4 : Sm := (.setIx (.var 0) (.int 1) (.op .add (.ix (.var 0) (.int 1)) (.int 1)))
def s__law_taken_5 : Sm := (.setIx (.var 0) (.int 2) (.op .mod (.bi .int (.cons (.op .add (.op .mul (.ix (.var 0) (.int 2)) (.int 48271)) (.int 11)) .nil)) (.int 2147483647)))
def s__law_taken_6 : Sm := (.ret (.op .mod (.bi .int (.cons (.op .fdiv (.ix (.var 0) (.int 2)) (.int 7)) .nil)) (.var 1)))
def b__law_taken_1 : Sms := (.cons s__law_taken_5 (.cons s__law_taken_6 .nil))
def s__law_taken_7 : Sm := (.iff (.cmp .gt (.ix (.var 0) (.int 1)) (.bi .len (.cons (.ix (.var 0) (.int 0)) .nil)))
 b__law_taken_1
 .nil)
def s__law_taken_8 : Sm := (.asg (.name 2) (.ix (.ix (.var 0) (.int 0)) (.op .sub (.ix (.var 0) (.int 1)) (.int 1))))
def s__law_taken_9 : Sm := (.setIx (.var 0) (.int 2) (.op .mod (.bi .int (.cons (.op .add (.op .add (.op .mul (.ix (.var 0) (.int 2)) (.int 48271)) (.var 2)) (.int 11)) .nil)) (.int 2147483647)))
def s__law_taken_10 : Sm := (.setIx (.var 0) (.int 3) (.op .fdiv (.var 2) (.var 1)))
def b__law_taken_2 : Sms := (.cons s__law_taken_10 .nil)
def s__law_taken_11 : Sm := (.iff (.cmp .ge (.var 2) (.op .pow (.int 10) (.int 18)))
 b__law_taken_2
 .nil)
def s__law_taken_12 : Sm := (.ret (.op .mod (.bi .int (.cons (.var 2) .nil)) (.var 1)))
def b__law_taken_3 : Sms := (.cons s__law_taken_3 (.cons s__law_taken_4 (.cons s__law_taken_7 (.cons s__law_taken_8 (.cons s__law_taken_9 (.cons s__law_taken_11 (.cons s__law_taken_12 .nil)))))))
def f__law_taken : Fn := ⟨"_law_taken", "_law_taken", ["_law_row", "_law_many"], ["_law_row", "_law_many", "_law_cell", "_law_found"],
 b__law_taken_3⟩
def s__law_pick_0 : Sm := (.ret (.ix (.var 1) (.call "_law_taken" (.cons (.var 0) (.cons (.bi .len (.cons (.var 1) .nil)) .nil)))))
def b__law_pick_0 : Sms := (.cons s__law_pick_0 .nil)
def f__law_pick : Fn := ⟨"_law_pick", "_law_pick", ["_law_row", "_law_things"], ["_law_row", "_law_things"],
 b__law_pick_0⟩
/-- the row: the script, its place, the mixed number, the cell's rest -/
def rowO (ns : List Int) (k m c : Int) : Ob := .lst [.kl (ns.map D.int), .int k, .int m, .int c]
def RowAt (tab : List Ob) (r : Nat) (ns : List Int) : Prop := ∃ k m c, tab[r]? = some (rowO ns k m c) ∧ 0 ≤ k
section
variable {p : Prg} {n : Nat} {tab : List Ob} {r : Nat} {ns : List Int}
theorem taken_ok (ht : p.get "_law_taken" = some f__law_taken) (h : RowAt tab r ns) {many : Int} (h1 : 0 < many) (h2 : many < 18446744073709551616) :
    ∃ v ob, p.call (n + 1) "_law_taken" [.ref r, .int many] tab = .ok (.d (.int v)) (tab.set r ob) ∧ 0 ≤ v ∧ v < many ∧ RowAt (tab.set r ob) r ns := by
  obtain ⟨k, m, c, hr, hk⟩ := h
  have hlt : r < tab.length := (List.getElem?_eq_some_iff.mp hr).1
  have hs : ∀ x, (tab.set r x)[r]? = some x := fun x => by simp [hlt]
  have fin : ∀ (v k' m' c' : Int), 0 ≤ k' → runF (p.kt n) f__law_taken [.ref r, .int many] tab = .ok (.d (.int (v % many))) (tab.set r (rowO ns k' m' c')) → ∃ v ob, runF (p.kt n) f__law_taken [.ref r, .int many] tab = .ok (.d (.int v)) (tab.set r ob) ∧ 0 ≤ v ∧ v < many ∧ RowAt (tab.set r ob) r ns :=
    fun v k' m' c' hk' e => ⟨_, _, e, Int.emod_nonneg _ (by omega), Int.emod_lt_of_pos _ h1, k', m', c', by simp [hlt], hk'⟩
  rw [call_of n ht]
  by_cases hc : 0 < c
  · refine fin c k m (c / many) hk ?_
    unfold runF f__law_taken b__law_taken_3
    simp [startE, s__law_taken_3, b__law_taken_0, s__law_taken_0, s__law_taken_1, s__law_taken_2, s__law_taken_4, s__law_taken_5, s__law_taken_6, s__law_taken_7, b__law_taken_1, s__law_taken_8, s__law_taken_9, s__law_taken_10, s__law_taken_11, s__law_taken_12, b__law_taken_2, varOf, hr, rowO, cmpD, cmpO, cmpI, ixD, seqOf, atI, ixN, hc, hs, tst, biD, binD, binI, h1, h2, putL, setAt, mvOf, i64]
  · by_cases hl : (ns.length : Int) < k + 1
    · refine fin (((m * 48271 + 11) % 2147483647) / 7) (k + 1) ((m * 48271 + 11) % 2147483647) c (by omega) ?_
      unfold runF f__law_taken b__law_taken_3
      simp [startE, s__law_taken_3, b__law_taken_0, s__law_taken_0, s__law_taken_1, s__law_taken_2, s__law_taken_4, s__law_taken_5, s__law_taken_6, s__law_taken_7, b__law_taken_1, s__law_taken_8, s__law_taken_9, s__law_taken_10, s__law_taken_11, s__law_taken_12, b__law_taken_2, varOf, hr, rowO, cmpD, cmpO, cmpI, ixD, seqOf, atI, ixN, hc, hs, tst, biD, binD, binI, h1, h2, putL, setAt, mvOf, i64, hl]
    · have hk2 : k.toNat < ns.length := by omega
      have e1 : (ns[k.toNat]?) = some ns[k.toNat] := List.getElem?_eq_getElem hk2
      by_cases hb : 1000000000000000000 ≤ ns[k.toNat]
      · refine fin ns[k.toNat] (k + 1) ((m * 48271 + ns[k.toNat] + 11) % 2147483647) (ns[k.toNat] / many) (by omega) ?_
        unfold runF f__law_taken b__law_taken_3
        simp [startE, s__law_taken_3, b__law_taken_0, s__law_taken_0, s__law_taken_1, s__law_taken_2, s__law_taken_4, s__law_taken_5, s__law_taken_6, s__law_taken_7, b__law_taken_1, s__law_taken_8, s__law_taken_9, s__law_taken_10, s__law_taken_11, s__law_taken_12, b__law_taken_2, varOf, hr, rowO, cmpD, cmpO, cmpI, ixD, seqOf, atI, ixN, hc, hs, tst, biD, binD, binI, h1, h2, putL, setAt, mvOf, i64, hl, hk, e1, hb, show k < (ns.length : Int) by omega]
      · refine fin ns[k.toNat] (k + 1) ((m * 48271 + ns[k.toNat] + 11) % 2147483647) c (by omega) ?_
        unfold runF f__law_taken b__law_taken_3
        simp [startE, s__law_taken_3, b__law_taken_0, s__law_taken_0, s__law_taken_1, s__law_taken_2, s__law_taken_4, s__law_taken_5, s__law_taken_6, s__law_taken_7, b__law_taken_1, s__law_taken_8, s__law_taken_9, s__law_taken_10, s__law_taken_11, s__law_taken_12, b__law_taken_2, varOf, hr, rowO, cmpD, cmpO, cmpI, ixD, seqOf, atI, ixN, hc, hs, tst, biD, binD, binI, h1, h2, putL, setAt, mvOf, i64, hl, hk, e1, hb, show k < (ns.length : Int) by omega]
/-- one of some things -/
theorem pick_ok (ht : p.get "_law_taken" = some f__law_taken) (hp : p.get "_law_pick" = some f__law_pick) (h : RowAt tab r ns) {xs : List D} (h1 : 0 < xs.length) (h2 : xs.length < 1000000) :
    ∃ (v : Nat) (x : D) (ob : Ob), xs[v]? = some x ∧ p.call (n + 2) "_law_pick" [.ref r, .lst xs] tab = .ok (.d x) (tab.set r ob) ∧ RowAt (tab.set r ob) r ns := by
  obtain ⟨v, ob, e, v0, v1, hr⟩ := taken_ok (n := n) ht h (many := (xs.length : Int)) (by omega) (by omega)
  have hv : v.toNat < xs.length := by omega
  refine ⟨v.toNat, xs[v.toNat], ob, List.getElem?_eq_getElem hv, ?_, hr⟩
  rw [call_of (n + 1) hp]
  unfold runF f__law_pick b__law_pick_0
  simp [startE, s__law_pick_0, varOf, biD, seqOf, e, ixD, atI, ixN, v0, v1, hv]
end
end SH

end
section
set_option Elab.async false
set_option linter.all false
set_option maxRecDepth 100000
set_option maxHeartbeats 1000000
namespace SH
open PySem PySem.Spec L2
/-! ### loops -/
section
variable {bd : D → Env → Option Env} {own : List Nat} {fc : S → R Bool} {fe : S → R Ev} {tab : List Ob} {E : Env}
/-- a comprehension that only looks -/
theorem loopC_map (f : D → D) : ∀ (xs : List D) (acc : List D) (env : Env), wipeE env own = E →
    (∀ x ∈ xs, ∃ e1 e2 e3, bd x E = some e1 ∧ fc ⟨e1, tab⟩ = .ok true ⟨e2, tab⟩ ∧ fe ⟨e2, tab⟩ = .ok (.d (f x)) ⟨e3, tab⟩ ∧ wipeE e3 own = E) →
    loopC bd own fc fe xs acc ⟨env, tab⟩ = .ok (acc ++ xs.map f) ⟨E, tab⟩
  | [], acc, env, h, _ => by
    unfold loopC
    rw [h]
    simp
  | x :: xs, acc, env, h, hx => by
    obtain ⟨e1, e2, e3, h1, h2, h3, h4⟩ := hx x List.mem_cons_self
    unfold loopC
    dsimp only
    rw [h, h1]
    dsimp only
    rw [h2]
    dsimp only
    rw [h3]
    dsimp only
    rw [loopC_map f xs _ e3 h4 fun y hy => hx y (List.mem_cons_of_mem _ hy)]
    simp
/-- .. one that draws: what its items are, an invariant of the table -/
theorem loopC_inv (P : List Ob → Prop) (Q : D → Prop) : ∀ (xs : List D) (acc : List D) (env : Env) (tab : List Ob), wipeE env own = E → P tab →
    (∀ x ∈ xs, ∀ tab, P tab → ∃ e1 e2 e3 tab' y, bd x E = some e1 ∧ fc ⟨e1, tab⟩ = .ok true ⟨e2, tab⟩ ∧ fe ⟨e2, tab⟩ = .ok (.d y) ⟨e3, tab'⟩ ∧ wipeE e3 own = E ∧ P tab' ∧ Q y) →
    ∃ ys tab', loopC bd own fc fe xs acc ⟨env, tab⟩ = .ok (acc ++ ys) ⟨E, tab'⟩ ∧ P tab' ∧ ys.length = xs.length ∧ ∀ y ∈ ys, Q y
  | [], acc, env, tab, h, hp, _ => by
    refine ⟨[], tab, ?_, hp, rfl, fun y hy => by simp at hy⟩
    unfold loopC
    rw [h]
    simp
  | x :: xs, acc, env, tab, h, hp, hx => by
    obtain ⟨e1, e2, e3, tab1, y, h1, h2, h3, h4, h5, h6⟩ := hx x List.mem_cons_self tab hp
    obtain ⟨ys, tab', g1, g2, g3, g4⟩ := loopC_inv P Q xs (acc ++ [y]) e3 tab1 h4 h5 fun y hy => hx y (List.mem_cons_of_mem _ hy)
    refine ⟨y :: ys, tab', ?_, g2, by simp [g3], fun z hz => ?_⟩
    · unfold loopC
      dsimp only
      rw [h, h1]
      dsimp only
      rw [h2]
      dsimp only
      rw [h3]
      show loopC bd own fc fe xs (acc ++ [y]) ⟨e3, tab1⟩ = _
      rw [g1]
      simp
    · rcases List.mem_cons.mp hz with e | hz
      · rw [e]; exact h6
      · exact g4 z hz
end
section
variable {bd : D → Env → Option Env} {fb : S → F}
/-- a for loop whose turns go on, by a word of the items that are left -/
theorem forL_inv (P : List D → S → Prop) : ∀ (xs : List D) (s : S), P xs s → (∀ x xs s, P (x :: xs) s → ∃ env s', bd x s.env = some env ∧ (fb { s with env := env } = .nx s' ∨ fb { s with env := env } = .ct s') ∧ P xs s') → ∃ s', forL bd fb xs s = .nx s' ∧ P [] s'
  | [], s, h, _ => ⟨s, rfl, h⟩
  | x :: xs, s, h, hs => by
    obtain ⟨env, s', h1, h2, h3⟩ := hs x xs s h
    obtain ⟨s2, h4, h5⟩ := forL_inv P xs s' h3 hs
    refine ⟨s2, ?_, h5⟩
    unfold forL
    rw [h1]
    dsimp only
    rcases h2 with h2 | h2 <;> rw [h2] <;> exact h4
theorem whileL_t {fc : S → R Bool} {s s1 s2 : S} {n : Nat} (h1 : fc s = .ok true s1) (h2 : fb s1 = .nx s2) : whileL fc fb (n + 1) s = whileL fc fb n s2 := by
  conv => lhs; unfold whileL
  rw [h1]
  dsimp only
  rw [h2]
theorem whileL_f {fc : S → R Bool} {s s1 : S} {n : Nat} (h1 : fc s = .ok false s1) : whileL fc fb (n + 1) s = .nx s1 := by
  unfold whileL
  rw [h1]
@[simp] theorem tst_k {k : Kt} {c : Ex} {s : S} : tst k c s = kCt (eval k c s) := rfl
end
end SH

end
section
set_option Elab.async false
set_option linter.all false
set_option maxRecDepth 100000
set_option maxHeartbeats 4000000
namespace K09
open PySem PySem.Spec PyProof.Rows L2 SH
def s_is_whole_0 : Sm := (.ret (.and_ (.isi (.var 0) .int) (.and_ (.not_ (.isi (.var 0) .bool)) (.chain .le .le (.var 1) (.var 0) (.var 2)))))
def b_is_whole_0 : Sms := (.cons s_is_whole_0 .nil)
def f_is_whole : Fn := ⟨"is_whole", "is_whole", ["thing", "least", "most"], ["thing", "least", "most"],
 b_is_whole_0⟩
def s_need_sum_0 : Sm := (.raise "BadNumber" "no amount, or no weights")
def b_need_sum_0 : Sms := (.cons s_need_sum_0 .nil)
def s_need_sum_1 : Sm := (.iff (.or_ (.not_ (.call "is_whole" (.cons (.var 0) (.cons (.int 0) (.cons (.glob "MOST") .nil))))) (.or_ (.not_ (.isi (.var 1) .tuple)) (.not_ (.chain .le .le (.int 1) (.bi .len (.cons (.var 1) .nil)) (.int 40)))))
 b_need_sum_0
 .nil)
def q_need_sum_0 : Ex := (.comp [("weight", 2)] (.name 2) (.seq (.bor 1)) .nop (.call "is_whole" (.cons (.var 2) (.cons (.int 0) (.cons (.glob "MOST") .nil)))))
@[simp] theorem bo_q_need_sum_0 {f s} : bo q_need_sum_0 f s = kBo (f s) := rfl
@[simp] theorem so_q_need_sum_0 {f s} : so q_need_sum_0 f s = kSo (f s) := rfl
def s_need_sum_2 : Sm := (.raise "BadNumber" "no weights")
def b_need_sum_1 : Sms := (.cons s_need_sum_2 .nil)
def s_need_sum_3 : Sm := (.iff (.or_ (.not_ (.bi .all (.cons q_need_sum_0 .nil))) (.cmp .eq (.bi .sum (.cons (.var 1) .nil)) (.int 0)))
 b_need_sum_1
 .nil)
def b_need_sum_2 : Sms := (.cons s_need_sum_1 (.cons s_need_sum_3 .nil))
def f_need_sum : Fn := ⟨"need_sum", "need_sum", ["amount", "weights"], ["amount", "weights", "weight"],
 b_need_sum_2⟩
def s_shared_by_0 : Sm := (.asg (.name 2) (.bi .sum (.cons (.var 1) .nil)))
def q_shared_by_0 : Ex := (.comp [("weight", 7)] (.name 7) (.seq (.bor 1)) .nop (.op .fdiv (.op .mul (.var 0) (.var 7)) (.var 2)))
@[simp] theorem bo_q_shared_by_0 {f s} : bo q_shared_by_0 f s = kBo (f s) := rfl
@[simp] theorem so_q_shared_by_0 {f s} : so q_shared_by_0 f s = kSo (f s) := rfl
def s_shared_by_1 : Sm := (.asg (.name 3) q_shared_by_0)
def q_shared_by_1 : Ex := (.comp [("at", 6), ("weight", 7)] (.tup (.cons (.name 6) (.cons (.name 7) .nil))) (.enum (.bor 1)) .nop (.tup (.cons (.neg (.op .mod (.op .mul (.var 0) (.var 7)) (.var 2))) (.cons (.var 6) .nil))))
@[simp] theorem bo_q_shared_by_1 {f s} : bo q_shared_by_1 f s = kBo (f s) := rfl
@[simp] theorem so_q_shared_by_1 {f s} : so q_shared_by_1 f s = kSo (f s) := rfl
def s_shared_by_2 : Sm := (.asg (.name 4) (.bi .sorted (.cons q_shared_by_1 .nil)))
def s_shared_by_3 : Sm := (.augIx (.var 3) (.var 6) .add (.int 1))
def b_shared_by_0 : Sms := (.cons s_shared_by_3 .nil)
def s_shared_by_4 : Sm := (.for_ (.tup (.cons (.name 5) (.cons (.name 6) .nil))) (.seq (.sl (.var 4) .nop (.op .sub (.var 0) (.bi .sum (.cons (.var 3) .nil)))))
 b_shared_by_0)
def s_shared_by_5 : Sm := (.ret (.bi .tuple (.cons (.var 3) .nil)))
def b_shared_by_1 : Sms := (.cons s_shared_by_0 (.cons s_shared_by_1 (.cons s_shared_by_2 (.cons s_shared_by_4 (.cons s_shared_by_5 .nil)))))
def f_shared_by : Fn := ⟨"shared_by", "shared_by", ["amount", "weights"], ["amount", "weights", "whole", "parts", "rests", "rest", "at", "weight"],
 b_shared_by_1⟩
def s_shared_0 : Sm := (.expr (.call "need_sum" (.cons (.var 0) (.cons (.var 1) .nil))))
def s_shared_1 : Sm := (.ret (.call "shared_by" (.cons (.var 0) (.cons (.var 1) .nil))))
def b_shared_0 : Sms := (.cons s_shared_0 (.cons s_shared_1 .nil))
def f_shared : Fn := ⟨"shared", "shared", ["amount", "weights"], ["amount", "weights"],
 b_shared_0⟩
def s_step_parts_0 : Sm := (.par [3, 4, 5, 6] (.cons (.bi .sum (.cons (.var 1) .nil)) (.cons (.int 0) (.cons (.int 0) (.cons (.lst .nil) .nil)))))
def s_step_parts_1 : Sm := (.aug 4 .add (.var 2))
def s_step_parts_2 : Sm := (.asg (.name 7) (.op .fdiv (.op .mul (.var 0) (.var 4)) (.var 3)))
def s_step_parts_3 : Sm := (.append (.var 6) (.op .sub (.var 7) (.var 5)))
def s_step_parts_4 : Sm := (.asg (.name 5) (.var 7))
def b_step_parts_0 : Sms := (.cons s_step_parts_1 (.cons s_step_parts_2 (.cons s_step_parts_3 (.cons s_step_parts_4 .nil))))
def s_step_parts_5 : Sm := (.for_ (.name 2) (.seq (.var 1))
 b_step_parts_0)
def s_step_parts_6 : Sm := (.ret (.bi .tuple (.cons (.var 6) .nil)))
def b_step_parts_1 : Sms := (.cons s_step_parts_0 (.cons s_step_parts_5 (.cons s_step_parts_6 .nil)))
def f_step_parts : Fn := ⟨"step_parts", "step_parts", ["amount", "weights"], ["amount", "weights", "weight", "whole", "so_far", "last", "found", "now"],
 b_step_parts_1⟩
def s_stepped_0 : Sm := (.expr (.call "need_sum" (.cons (.var 0) (.cons (.var 1) .nil))))
def s_stepped_1 : Sm := (.ret (.call "step_parts" (.cons (.var 0) (.cons (.var 1) .nil))))
def b_stepped_0 : Sms := (.cons s_stepped_0 (.cons s_stepped_1 .nil))
def f_stepped : Fn := ⟨"stepped", "stepped", ["amount", "weights"], ["amount", "weights"],
 b_stepped_0⟩
def s_rounded_0 : Sm := (.ret (.op .fdiv (.op .add (.op .mul (.int 2) (.var 0)) (.var 1)) (.op .mul (.int 2) (.var 1))))
def b_rounded_0 : Sms := (.cons s_rounded_0 .nil)
def f_rounded : Fn := ⟨"rounded", "rounded", ["top", "low"], ["top", "low"],
 b_rounded_0⟩
def s_taxed_0 : Sm := (.raise "BadNumber" "no amount, or no rate")
def b_taxed_0 : Sms := (.cons s_taxed_0 .nil)
def s_taxed_1 : Sm := (.iff (.or_ (.not_ (.call "is_whole" (.cons (.var 0) (.cons (.int 0) (.cons (.glob "MOST") .nil))))) (.not_ (.call "is_whole" (.cons (.var 1) (.cons (.int 0) (.cons (.int 999) .nil))))))
 b_taxed_0
 .nil)
def s_taxed_2 : Sm := (.ret (.call "rounded" (.cons (.op .mul (.var 0) (.var 1)) (.cons (.int 1000) .nil))))
def b_taxed_1 : Sms := (.cons s_taxed_1 (.cons s_taxed_2 .nil))
def f_taxed : Fn := ⟨"taxed", "taxed", ["net", "rate"], ["net", "rate"],
 b_taxed_1⟩
def s_net_of_0 : Sm := (.raise "BadNumber" "no amount, or no rate")
def b_net_of_0 : Sms := (.cons s_net_of_0 .nil)
def s_net_of_1 : Sm := (.iff (.or_ (.not_ (.call "is_whole" (.cons (.var 0) (.cons (.int 0) (.cons (.glob "MOST") .nil))))) (.not_ (.call "is_whole" (.cons (.var 1) (.cons (.int 0) (.cons (.int 999) .nil))))))
 b_net_of_0
 .nil)
def s_net_of_2 : Sm := (.asg (.name 2) (.op .fdiv (.op .mul (.var 0) (.int 1000)) (.op .add (.int 1000) (.var 1))))
def c_net_of_0 : Ex := (.cmp .le (.op .add (.op .add (.var 2) (.int 1)) (.call "rounded" (.cons (.op .mul (.op .add (.var 2) (.int 1)) (.var 1)) (.cons (.int 1000) .nil)))) (.var 0))
def s_net_of_3 : Sm := (.aug 2 .add (.int 1))
def b_net_of_1 : Sms := (.cons s_net_of_3 .nil)
def s_net_of_4 : Sm := (.while_ c_net_of_0 b_net_of_1)
def c_net_of_1 : Ex := (.cmp .gt (.op .add (.var 2) (.call "rounded" (.cons (.op .mul (.var 2) (.var 1)) (.cons (.int 1000) .nil)))) (.var 0))
def s_net_of_5 : Sm := (.aug 2 .sub (.int 1))
def b_net_of_2 : Sms := (.cons s_net_of_5 .nil)
def s_net_of_6 : Sm := (.while_ c_net_of_1 b_net_of_2)
def s_net_of_7 : Sm := (.ret (.mv 2))
def b_net_of_3 : Sms := (.cons s_net_of_1 (.cons s_net_of_2 (.cons s_net_of_4 (.cons s_net_of_6 (.cons s_net_of_7 .nil)))))
def f_net_of : Fn := ⟨"net_of", "net_of", ["gross", "rate"], ["gross", "rate", "net"],
 b_net_of_3⟩
def s_law_0 : Sm := (.asg (.name 1) (.share (.lst (.cons (.var 0) (.cons (.int 0) (.cons (.int 7209) (.cons (.int 0) .nil)))))))
def s_law_1 : Sm := (.asg (.name 2) (.call "_law_taken" (.cons (.var 1) (.cons (.ix (.lst (.cons (.int 4) (.cons (.int 100) (.cons (.int 1000000) .nil)))) (.call "_law_taken" (.cons (.var 1) (.cons (.int 3) .nil)))) .nil))))
def q_law_0 : Ex := (.comp [("_law_turn", 22)] (.name 22) (.rng1 (.op .add (.int 1) (.call "_law_taken" (.cons (.var 1) (.cons (.int 6) .nil))))) .nop (.call "_law_taken" (.cons (.var 1) (.cons (.ix (.lst (.cons (.int 3) (.cons (.int 50) .nil))) (.call "_law_taken" (.cons (.var 1) (.cons (.int 2) .nil)))) .nil))))
@[simp] theorem bo_q_law_0 {f s} : bo q_law_0 f s = kBo (f s) := rfl
@[simp] theorem so_q_law_0 {f s} : so q_law_0 f s = kSo (f s) := rfl
def s_law_2 : Sm := (.asg (.name 3) (.bi .tuple (.cons q_law_0 .nil)))
def s_law_3 : Sm := (.asg (.name 3) (.op .add (.var 3) (.tup (.cons (.int 1) .nil))))
def b_law_0 : Sms := (.cons s_law_3 .nil)
def s_law_4 : Sm := (.iff (.cmp .eq (.bi .sum (.cons (.var 3) .nil)) (.int 0))
 b_law_0
 .nil)
def s_law_5 : Sm := (.par [12, 13, 14] (.cons (.bi .sum (.cons (.var 3) .nil)) (.cons (.call "shared" (.cons (.var 2) (.cons (.var 3) .nil))) (.cons (.call "stepped" (.cons (.var 2) (.cons (.var 3) .nil))) .nil))))
def s_law_6 : Sm := (.ret (.bl false))
def b_law_1 : Sms := (.cons s_law_6 .nil)
def s_law_7 : Sm := (.iff (.or_ (.cmp .ne (.bi .sum (.cons (.var 13) .nil)) (.var 2)) (.or_ (.cmp .ne (.bi .sum (.cons (.var 14) .nil)) (.var 2)) (.or_ (.cmp .ne (.bi .len (.cons (.var 13) .nil)) (.bi .len (.cons (.var 3) .nil))) (.cmp .ne (.bi .len (.cons (.var 14) .nil)) (.bi .len (.cons (.var 3) .nil))))))
 b_law_1
 .nil)
def s_law_8 : Sm := (.asg (.name 4) (.lst .nil))
def s_law_9 : Sm := (.asg (.name 16) (.op .fdiv (.op .mul (.var 2) (.var 15)) (.var 12)))
def s_law_10 : Sm := (.ret (.bl false))
def b_law_2 : Sms := (.cons s_law_10 .nil)
def s_law_11 : Sm := (.iff (.or_ (.isi (.ix (.var 13) (.var 6)) .bool) (.cmp .ni (.ix (.var 13) (.var 6)) (.lst (.cons (.var 16) (.cons (.op .add (.var 16) (.int 1)) .nil)))))
  b_law_2
  .nil)
def s_law_12 : Sm := (.append (.var 4) (.tup (.cons (.op .mod (.op .mul (.var 2) (.var 15)) (.var 12)) (.cons (.op .sub (.ix (.var 13) (.var 6)) (.var 16)) (.cons (.var 6) .nil)))))
def b_law_3 : Sms := (.cons s_law_9 (.cons s_law_11 (.cons s_law_12 .nil)))
def s_law_13 : Sm := (.for_ (.tup (.cons (.name 6) (.cons (.name 15) .nil))) (.enum (.var 3))
 b_law_3)
def s_law_14 : Sm := (.ret (.bl false))
def b_law_4 : Sms := (.cons s_law_14 .nil)
def s_law_15 : Sm := (.iff (.and_ (.cmp .lt (.var 18) (.var 20)) (.or_ (.cmp .gt (.var 17) (.var 19)) (.and_ (.cmp .eq (.var 17) (.var 19)) (.cmp .lt (.var 6) (.var 21)))))
   b_law_4
   .nil)
def b_law_5 : Sms := (.cons s_law_15 .nil)
def s_law_16 : Sm := (.for_ (.tup (.cons (.name 19) (.cons (.name 20) (.cons (.name 21) .nil)))) (.seq (.var 4))
  b_law_5)
def s_law_17 : Sm := (.ret (.bl false))
def b_law_6 : Sms := (.cons s_law_17 .nil)
def s_law_18 : Sm := (.iff (.and_ (.cmp .eq (.var 18) (.int 1)) (.cmp .eq (.var 17) (.int 0)))
  b_law_6
  .nil)
def b_law_7 : Sms := (.cons s_law_16 (.cons s_law_18 .nil))
def s_law_19 : Sm := (.for_ (.tup (.cons (.name 17) (.cons (.name 18) (.cons (.name 6) .nil)))) (.seq (.var 4))
 b_law_7)
def s_law_20 : Sm := (.asg (.name 5) (.int 0))
def s_law_21 : Sm := (.asg (.name 5) (.op .add (.var 5) (.ix (.var 3) (.var 6))))
def s_law_22 : Sm := (.ret (.bl false))
def b_law_8 : Sms := (.cons s_law_22 .nil)
def s_law_23 : Sm := (.iff (.cmp .ne (.bi .sum (.cons (.sl (.var 14) .nop (.op .add (.var 6) (.int 1))) .nil)) (.op .fdiv (.op .mul (.var 2) (.var 5)) (.var 12)))
  b_law_8
  .nil)
def b_law_9 : Sms := (.cons s_law_21 (.cons s_law_23 .nil))
def s_law_24 : Sm := (.for_ (.name 6) (.rng1 (.bi .len (.cons (.var 3) .nil)))
 b_law_9)
def s_law_25 : Sm := (.asg (.name 7) (.call "_law_pick" (.cons (.var 1) (.cons (.lst (.cons (.int 0) (.cons (.int 1) (.cons (.int 70) (.cons (.int 190) (.cons (.int 333) (.cons (.int 999) .nil))))))) .nil))))
def s_law_26 : Sm := (.asg (.name 8) (.call "taxed" (.cons (.var 2) (.cons (.var 7) .nil))))
def s_law_27 : Sm := (.ret (.bl false))
def b_law_10 : Sms := (.cons s_law_27 .nil)
def s_law_28 : Sm := (.iff (.or_ (.cmp .ge (.op .sub (.op .mul (.op .mul (.int 2) (.var 2)) (.var 7)) (.int 1000)) (.op .mul (.int 2000) (.var 8))) (.or_ (.cmp .lt (.op .add (.op .mul (.op .mul (.int 2) (.var 2)) (.var 7)) (.int 1000)) (.op .mul (.int 2000) (.var 8))) (.isi (.var 8) .bool)))
 b_law_10
 .nil)
def s_law_29 : Sm := (.asg (.name 9) (.call "net_of" (.cons (.var 2) (.cons (.var 7) .nil))))
def s_law_30 : Sm := (.ret (.bl false))
def b_law_11 : Sms := (.cons s_law_30 .nil)
def s_law_31 : Sm := (.iff (.or_ (.cmp .gt (.op .add (.var 9) (.call "taxed" (.cons (.var 9) (.cons (.var 7) .nil)))) (.var 2)) (.or_ (.cmp .le (.op .add (.op .add (.var 9) (.int 1)) (.call "taxed" (.cons (.op .add (.var 9) (.int 1)) (.cons (.var 7) .nil)))) (.var 2)) (.cmp .lt (.var 9) (.int 0))))
 b_law_11
 .nil)
def s_law_32 : Sm := (.asg (.name 10) (.call "_law_pick" (.cons (.var 1) (.cons (.lst (.cons (.tup (.cons (.neg (.int 1)) (.cons (.tup (.cons (.int 1) .nil)) .nil))) (.cons (.tup (.cons (.int 1) (.cons (.tup .nil) .nil))) (.cons (.tup (.cons (.int 1) (.cons (.tup (.cons (.int 0) (.cons (.int 0) .nil))) .nil))) (.cons (.tup (.cons (.int 1) (.cons (.tup (.cons (.int 1) (.cons (.bl true) .nil))) .nil))) (.cons (.tup (.cons (.bl true) (.cons (.tup (.cons (.int 1) .nil)) .nil))) (.cons (.tup (.cons (.int 1) (.cons (.lst (.cons (.int 1) .nil)) .nil))) .nil))))))) .nil))))
def s_law_33 : Sm := (.asg (.name 9) (.int 0))
def b_law_12 : Sms := (.cons s_law_33 .nil)
def s_law_34 : Sm := (.expr (.call "shared" (.cons (.ix (.var 10) (.int 0)) (.cons (.ix (.var 10) (.int 1)) .nil))))
def s_law_35 : Sm := (.ret (.bl false))
def b_law_13 : Sms := (.cons s_law_34 (.cons s_law_35 .nil))
def s_law_36 : Sm := (.try_ b_law_13
 (.cons "BadNumber" (some 11) b_law_12 .nil))
def s_law_37 : Sm := (.ret (.bl true))
def b_law_14 : Sms := (.cons s_law_37 .nil)
def s_law_38 : Sm := (.expr (.call "taxed" (.cons (.int 1) (.cons (.call "_law_pick" (.cons (.var 1) (.cons (.lst (.cons (.neg (.int 1)) (.cons (.int 1000) (.cons .non (.cons (.bl true) .nil))))) .nil))) .nil))))
def b_law_15 : Sms := (.cons s_law_38 .nil)
def s_law_39 : Sm := (.try_ b_law_15
 (.cons "BadNumber" (some 11) b_law_14 .nil))
def s_law_40 : Sm := (.ret (.bl false))
def b_law_16 : Sms := (.cons s_law_0 (.cons s_law_1 (.cons s_law_2 (.cons s_law_4 (.cons s_law_5 (.cons s_law_7 (.cons s_law_8 (.cons s_law_13 (.cons s_law_19 (.cons s_law_20 (.cons s_law_24 (.cons s_law_25 (.cons s_law_26 (.cons s_law_28 (.cons s_law_29 (.cons s_law_31 (.cons s_law_32 (.cons s_law_36 (.cons s_law_39 (.cons s_law_40 .nil))))))))))))))))))))
def f_law : Fn := ⟨"law", "law", ["_law_script"], ["_law_script", "_law_row", "_law_amount", "_law_weights", "_law_rests", "_law_so_far", "_law_at", "_law_rate", "_law_tax", "_law_net", "_law_wrong", "e", "_law_whole", "_law_parts", "_law_steps", "_law_weight", "_law_floor", "_law_rest", "_law_more", "_law_other", "_law_extra", "_law_place", "_law_turn"],
 b_law_16⟩
def fns : List Fn := [f_is_whole, f_need_sum, f_shared_by, f_shared, f_step_parts, f_stepped, f_rounded, f_taxed, f_net_of, f__law_taken, f__law_pick, f_law]
def G : Gs := ⟨["all", "bool", "enumerate", "int", "isinstance", "len", "range", "sorted", "sum", "tuple"], ["MOST"], [("is_whole", 3), ("need_sum", 2), ("shared_by", 2), ("shared", 2), ("step_parts", 2), ("stepped", 2), ("rounded", 2), ("taxed", 2), ("net_of", 2), ("_law_taken", 2), ("_law_pick", 2), ("law", 1)], ["BadNumber"]⟩
def ci : List (Str × Int) := [("MOST", 1000000000000)]
def sb : List (Str × Str × Bool) := [("BadNumber", "BadNumber", true)]
def prg : Prg := prgOf fns ci sb
def top (i : Nat) : Stmt := PySem.Challenge.pw_surehouse_k09_whole_sums.main.body.getD i (.Pass ⟨0, 0, 0, 0⟩)
def d_is_whole : He.DefD := ⟨("is_whole", none), "is_whole", "is_whole", defArgs (top 4), defBody (top 4), defScope (top 4), [], []⟩
def d_need_sum : He.DefD := ⟨("need_sum", none), "need_sum", "need_sum", defArgs (top 7), defBody (top 7), defScope (top 7), [], []⟩
def d_shared_by : He.DefD := ⟨("shared_by", none), "shared_by", "shared_by", defArgs (top 8), defBody (top 8), defScope (top 8), [], []⟩
def d_shared : He.DefD := ⟨("shared", none), "shared", "shared", defArgs (top 9), defBody (top 9), defScope (top 9), [], []⟩
def d_step_parts : He.DefD := ⟨("step_parts", none), "step_parts", "step_parts", defArgs (top 10), defBody (top 10), defScope (top 10), [], []⟩
def d_stepped : He.DefD := ⟨("stepped", none), "stepped", "stepped", defArgs (top 11), defBody (top 11), defScope (top 11), [], []⟩
def d_rounded : He.DefD := ⟨("rounded", none), "rounded", "rounded", defArgs (top 12), defBody (top 12), defScope (top 12), [], []⟩
def d_taxed : He.DefD := ⟨("taxed", none), "taxed", "taxed", defArgs (top 13), defBody (top 13), defScope (top 13), [], []⟩
def d_net_of : He.DefD := ⟨("net_of", none), "net_of", "net_of", defArgs (top 14), defBody (top 14), defScope (top 14), [], []⟩
def d__law_taken : He.DefD := ⟨("_law_taken", none), "_law_taken", "_law_taken", defArgs (top 16), defBody (top 16), defScope (top 16), [], []⟩
def d__law_pick : He.DefD := ⟨("_law_pick", none), "_law_pick", "_law_pick", defArgs (top 17), defBody (top 17), defScope (top 17), [], []⟩
def d_law : He.DefD := ⟨("law", none), "law", "law", defArgs (top 18), defBody (top 18), defScope (top 18), [], []⟩
def ds : List He.DefD := [d_is_whole, d_need_sum, d_shared_by, d_shared, d_step_parts, d_stepped, d_rounded, d_taxed, d_net_of, d__law_taken, d__law_pick, d_law]
def fa : List He.Fa := faOf G fns ci sb
theorem ok_is_whole : dOk G f_is_whole d_is_whole = true := by decide +kernel
theorem ok_need_sum : dOk G f_need_sum d_need_sum = true := by decide +kernel
theorem ok_shared_by : dOk G f_shared_by d_shared_by = true := by decide +kernel
theorem ok_shared : dOk G f_shared d_shared = true := by decide +kernel
theorem ok_step_parts : dOk G f_step_parts d_step_parts = true := by decide +kernel
theorem ok_stepped : dOk G f_stepped d_stepped = true := by decide +kernel
theorem ok_rounded : dOk G f_rounded d_rounded = true := by decide +kernel
theorem ok_taxed : dOk G f_taxed d_taxed = true := by decide +kernel
theorem ok_net_of : dOk G f_net_of d_net_of = true := by decide +kernel
theorem ok__law_taken : dOk G f__law_taken d__law_taken = true := by decide +kernel
theorem ok__law_pick : dOk G f__law_pick d__law_pick = true := by decide +kernel
theorem ok_law : dOk G f_law d_law = true := by decide +kernel
theorem ok_all : dsOk G fns ds = true := by
  show (dOk G f_is_whole d_is_whole && (dOk G f_need_sum d_need_sum && (dOk G f_shared_by d_shared_by && (dOk G f_shared d_shared && (dOk G f_step_parts d_step_parts && (dOk G f_stepped d_stepped && (dOk G f_rounded d_rounded && (dOk G f_taxed d_taxed && (dOk G f_net_of d_net_of && (dOk G f__law_taken d__law_taken && (dOk G f__law_pick d__law_pick && (dOk G f_law d_law && true)))))))))))) = true
  rw [ok_is_whole, ok_need_sum, ok_shared_by, ok_shared, ok_step_parts, ok_stepped, ok_rounded, ok_taxed, ok_net_of, ok__law_taken, ok__law_pick, ok_law]
  rfl
theorem ok_g : gOk G fns sb = true := by decide +kernel
theorem bd : BdAll fns ds := .cons (fun _ _ _ _ _ _ us hl => match us, hl with | [_, _, _], _ => rfl) (.cons (fun _ _ _ _ _ _ us hl => match us, hl with | [_, _], _ => rfl) (.cons (fun _ _ _ _ _ _ us hl => match us, hl with | [_, _], _ => rfl) (.cons (fun _ _ _ _ _ _ us hl => match us, hl with | [_, _], _ => rfl) (.cons (fun _ _ _ _ _ _ us hl => match us, hl with | [_, _], _ => rfl) (.cons (fun _ _ _ _ _ _ us hl => match us, hl with | [_, _], _ => rfl) (.cons (fun _ _ _ _ _ _ us hl => match us, hl with | [_, _], _ => rfl) (.cons (fun _ _ _ _ _ _ us hl => match us, hl with | [_, _], _ => rfl) (.cons (fun _ _ _ _ _ _ us hl => match us, hl with | [_, _], _ => rfl) (.cons (fun _ _ _ _ _ _ us hl => match us, hl with | [_, _], _ => rfl) (.cons (fun _ _ _ _ _ _ us hl => match us, hl with | [_, _], _ => rfl) (.cons (fun _ _ _ _ _ _ us hl => match us, hl with | [_], _ => rfl) (.nil))))))))))))
def loose : List Str := ["ShopError", "BadNumber", "is_whole", "MOST", "need_sum", "shared_by", "shared", "step_parts", "stepped", "rounded", "taxed", "net_of", "__name__", "_law_taken", "_law_pick"]
def lawAt : Nat := 18
end K09

end
section
set_option Elab.async false
set_option linter.all false
set_option maxRecDepth 100000
set_option maxHeartbeats 0
namespace K09
open PySem PySem.Spec PyProof.Rows L2 SH
/-! ### the head -/
abbrev RR : PySem.W.OpenRow := PySem.W.OpenLaw.row PySem.Challenge.rw_surehouse_k09_whole_sums
abbrev hk : PySem.W.Hook := He.hookD 5 fa ds
def ob (s : PySem.W.SharedT) : He.AlD := He.obsDG 5 fa ds (HandSHeadRun.getT s)
theorem ob_eq (s : PySem.W.SharedT) : ob s = hk.obs s.abs := He.obsDG_eq (HandSHeadRun.getT_eq s)
theorem run (w : World) : HandSHeadRun.RunEq RR (PySem.W.view RR.prog [18]) hk ob 3000 loose w := by
  intro os
  kernel_rfl
end K09

end
section
set_option Elab.async false
set_option linter.all false
set_option maxRecDepth 100000
set_option maxHeartbeats 0
open PySem PySem.W PySem.Calls PyProof.Rows
/-- the law off its value -/
theorem K09.holds_of (V : ∀ ns : List Int, ns.length ≤ 63 → ∃ tab, K09.prg.call 12 "law" [.kl (ns.map SH.D.int)] [] = .ok (.d (.bl true)) tab) : PySem.Challenge.rw_surehouse_k09_whole_sums.Holds := by
  w_on; o_law
  refine HandSHeadRun.head_any (r := OpenLaw.row PySem.Challenge.rw_surehouse_k09_whole_sums) (q := view (OpenLaw.row PySem.Challenge.rw_surehouse_k09_whole_sums).prog [18]) (H := K09.hk) (ob := K09.ob) (M := 3000) (loose := K09.loose) (d := HandSHeadRun.topDef (OpenLaw.row PySem.Challenge.rw_surehouse_k09_whole_sums).prog 18) (kwd := []) K09.ob_eq
    (by kernel_rfl) (fun s => by kernel_rfl) K09.run (by kernel_rfl) (by kernel_rfl) (by kernel_rfl) (by rfl) (by first | assumption | decide +kernel) (by decide +kernel) ⟨rfl, rfl, rfl, rfl, rfl, by decide +kernel⟩ ?hw ?hc
  case hw => w_witness2
  case hc =>
    refine L2.walk_ofE (l := PySem.Challenge.rw_surehouse_k09_whole_sums) (n := 63) (k := 12) (x := "_law_script") (CX := fun a b c d e f => ∃ w, L2.CX (PySem.Challenge.rw_surehouse_k09_whole_sums).prog w a b c d e f) rfl (by decide) (by kernel_rfl) ⟨rfl, by decide, by decide⟩ ?F ?X
    case X =>
      intro H s e s' ⟨w, a, B, H', cls, d, h⟩
      exact h.2.2.2.2.2.2.2
    case F =>
      intro w mg fa h Y G hmg0
      obtain ⟨K, KX, c⟩ := Y
      have hmg : mg ("law" : PySem.Str) = some (.ref fa) := by
        have e : (HandSHeadRun.topDef (OpenLaw.row PySem.Challenge.rw_surehouse_k09_whole_sums).prog 18).name = ("law" : PySem.Str) := by kernel_rfl
        rw [← e]
        exact hmg0
      have hin : K09.f_law ∈ K09.fns := by simp [K09.fns]
      obtain ⟨fa', fd, D, e1, d, e2, F, bd⟩ := SH.fn_at K09.ok_all K09.bd KX G c hin
      have e3 : fa' = fa := by
        have q : mg ("law" : PySem.Str) = some (.ref fa') := D.mg
        rw [hmg] at q
        exact (Value.ref.inj (Option.some.inj q)).symm
      subst e3
      refine ⟨K, fd, SH.spOf K mg (fun _ => 0) (K09.prg.call 12) "law", KX, fun s u => L2.FunD.bindsA (ps := ["_law_script"]) F bd s [u] rfl, fun H a ns hl _ hS => ?_, fun base _ _ => ?_⟩
      · obtain ⟨tab, e⟩ := V ns hl
        exact SH.law_sp hS e
      · exact SH.fnOk_cx (SH.def_ok (SH.facts_of K09.ok_all K09.ok_g K09.bd KX G c) 12 (g := K09.f_law) rfl D) fun _ _ _ _ _ _ h => ⟨w, h⟩

end
section
set_option Elab.async false
set_option linter.all false
set_option maxRecDepth 100000
set_option maxHeartbeats 1000000
namespace K09
open PySem SH
theorem get_taken : prg.get "_law_taken" = some f__law_taken := rfl
theorem get_pick : prg.get "_law_pick" = some f__law_pick := rfl
section
variable (n : Nat) (tab : List Ob)
/-! ### is_whole -/
theorem is_whole_int (x lo hi : Int) : prg.call (n + 1) "is_whole" [.int x, .int lo, .int hi] tab = .ok (.d (.bl (decide (lo ≤ x) && decide (x ≤ hi)))) tab := by
  rw [call_of n (g := f_is_whole) rfl]
  unfold runF f_is_whole b_is_whole_0 s_is_whole_0
  by_cases h : lo ≤ x <;> simp [startE, isT, varOf, cmpD, cmpO, cmpI, h]
theorem is_whole_bl (b : Bool) (lo hi : Int) : prg.call (n + 1) "is_whole" [.bl b, .int lo, .int hi] tab = .ok (.d (.bl false)) tab := by
  rw [call_of n (g := f_is_whole) rfl]
  unfold runF f_is_whole b_is_whole_0 s_is_whole_0
  simp [startE, isT, varOf, cmpD, cmpO, cmpI]
theorem is_whole_non (lo hi : Int) : prg.call (n + 1) "is_whole" [.non, .int lo, .int hi] tab = .ok (.d (.bl false)) tab := by
  rw [call_of n (g := f_is_whole) rfl]
  unfold runF f_is_whole b_is_whole_0 s_is_whole_0
  simp [startE, isT, varOf, cmpD, cmpO, cmpI]
/-! ### rounded, taxed -/
theorem rounded_ok (p : Int) : prg.call (n + 1) "rounded" [.int p, .int 1000] tab = .ok (.d (.int ((2 * p + 1000) / 2000))) tab := by
  rw [call_of n (g := f_rounded) rfl]
  unfold runF f_rounded b_rounded_0 s_rounded_0
  simp [startE, varOf, binD, binI, i64]
theorem con_most : prg.con "MOST" = some (.int 1000000000000) := rfl
theorem taxed_ok {a r : Int} (h1 : 0 ≤ a) (h2 : a ≤ 1000000000000) (h3 : 0 ≤ r) (h4 : r ≤ 999) : prg.call (n + 2) "taxed" [.int a, .int r] tab = .ok (.d (.int ((2 * (a * r) + 1000) / 2000))) tab := by
  rw [call_of (n + 1) (g := f_taxed) rfl]
  unfold runF f_taxed b_taxed_1 s_taxed_1 s_taxed_2
  simp [startE, varOf, con_most, is_whole_int, h1, h2, h3, h4, binD, binI, i64, rounded_ok, show -18446744073709551616 < a by omega, show a < 18446744073709551616 by omega]
/-! ### net_of -/
def gr (net rate : Int) : Int := net + (2 * (net * rate) + 1000) / 2000
end
end K09

end
section
set_option Elab.async false
set_option linter.all false
set_option maxRecDepth 100000
set_option maxHeartbeats 1000000
namespace K09
open PySem SH
section
variable (n : Nat) (tab : List Ob)
theorem gr_ge {a r : Int} (h1 : 0 ≤ a) (h2 : 0 ≤ r) : a ≤ gr a r := by
  unfold gr
  have : 0 ≤ a * r := Int.mul_nonneg h1 h2
  omega
theorem up_ok {g r : Int} (hr : 0 ≤ r) (hr2 : r ≤ 999) : ∀ (m : Nat) (net : Int), 0 ≤ net → (g - net).toNat < m → ∃ net', net ≤ net' ∧ g < gr (net' + 1) r ∧ (net' = net ∨ gr net' r ≤ g) ∧
    whileL (tst (prg.kt (n + 1)) c_net_of_0) (execs (prg.kt (n + 1)) b_net_of_1) m ⟨[some (.d (.int g)), some (.d (.int r)), some (.d (.int net))], tab⟩ = .nx ⟨[some (.d (.int g)), some (.d (.int r)), some (.d (.int net'))], tab⟩
  | 0, net, _, h => absurd h (by omega)
  | m + 1, net, h0, h => by
    have ev : tst (prg.kt (n + 1)) c_net_of_0 ⟨[some (.d (.int g)), some (.d (.int r)), some (.d (.int net))], tab⟩ = .ok (decide (gr (net + 1) r ≤ g)) ⟨[some (.d (.int g)), some (.d (.int r)), some (.d (.int net))], tab⟩ := by
      unfold c_net_of_0
      simp [varOf, binD, binI, i64, rounded_ok, cmpD, cmpO, cmpI, gr, show -18446744073709551616 < r by omega, show r < 18446744073709551616 by omega]
      rfl
    by_cases hc : gr (net + 1) r ≤ g
    · have hb : execs (prg.kt (n + 1)) b_net_of_1 ⟨[some (.d (.int g)), some (.d (.int r)), some (.d (.int net))], tab⟩ = .nx ⟨[some (.d (.int g)), some (.d (.int r)), some (.d (.int (net + 1)))], tab⟩ := by
        unfold b_net_of_1 s_net_of_3
        simp [augI]
      have := gr_ge (a := net + 1) (by omega) hr
      obtain ⟨net', k1, k2, k3, k4⟩ := up_ok (g := g) hr hr2 m (net + 1) (by omega) (by omega)
      refine ⟨net', by omega, k2, ?_, ?_⟩
      · rcases k3 with k3 | k3
        · right; rw [k3]; exact hc
        · exact .inr k3
      · rw [whileL_t (by rw [ev, decide_eq_true hc]) hb]
        exact k4
    · exact ⟨net, by omega, by omega, .inl rfl, by rw [whileL_f (by rw [ev, decide_eq_false hc])]⟩
theorem gr_zero (r : Int) : gr 0 r = 0 := by unfold gr; simp
theorem down_ok {g r : Int} (hg : 0 ≤ g) (hr : 0 ≤ r) (hr2 : r ≤ 999) : ∀ (m : Nat) (net : Int), 0 ≤ net → net.toNat < m → g < gr (net + 1) r → ∃ net', 0 ≤ net' ∧ net' ≤ net ∧ g < gr (net' + 1) r ∧ gr net' r ≤ g ∧
    whileL (tst (prg.kt (n + 1)) c_net_of_1) (execs (prg.kt (n + 1)) b_net_of_2) m ⟨[some (.d (.int g)), some (.d (.int r)), some (.d (.int net))], tab⟩ = .nx ⟨[some (.d (.int g)), some (.d (.int r)), some (.d (.int net'))], tab⟩
  | 0, net, _, h, _ => absurd h (by omega)
  | m + 1, net, h0, h, hh => by
    have ev : tst (prg.kt (n + 1)) c_net_of_1 ⟨[some (.d (.int g)), some (.d (.int r)), some (.d (.int net))], tab⟩ = .ok (decide (g < gr net r)) ⟨[some (.d (.int g)), some (.d (.int r)), some (.d (.int net))], tab⟩ := by
      unfold c_net_of_1
      simp [varOf, binD, binI, i64, rounded_ok, cmpD, cmpO, cmpI, gr, show -18446744073709551616 < r by omega, show r < 18446744073709551616 by omega]
      rfl
    by_cases hc : g < gr net r
    · have hb : execs (prg.kt (n + 1)) b_net_of_2 ⟨[some (.d (.int g)), some (.d (.int r)), some (.d (.int net))], tab⟩ = .nx ⟨[some (.d (.int g)), some (.d (.int r)), some (.d (.int (net - 1)))], tab⟩ := by
        unfold b_net_of_2 s_net_of_5
        simp [augI]
      have h1 : net ≠ 0 := fun e => by rw [e, gr_zero] at hc; omega
      obtain ⟨net', k0, k1, k2, k3, k4⟩ := down_ok hg hr hr2 m (net - 1) (by omega) (by omega) (by rw [Int.sub_add_cancel]; exact hc)
      exact ⟨net', k0, by omega, k2, k3, by rw [whileL_t (by rw [ev, decide_eq_true hc]) hb]; exact k4⟩
    · exact ⟨net, h0, by omega, hh, by omega, by rw [whileL_f (by rw [ev, decide_eq_false hc])]⟩
theorem net_of_ok {g r : Int} (h1 : 0 ≤ g) (h2 : g ≤ 1000000) (h3 : 0 ≤ r) (h4 : r ≤ 999) : ∃ net, 0 ≤ net ∧ net ≤ g ∧ g < gr (net + 1) r ∧ gr net r ≤ g ∧ prg.call (n + 2) "net_of" [.int g, .int r] tab = .ok (.d (.int net)) tab := by
  have hn0 : 0 ≤ g * 1000 / (1000 + r) := Int.ediv_nonneg (by omega) (by omega)
  obtain ⟨a, a1, a2, a3, a4⟩ := up_ok n tab (g := g) h3 h4 wfuel (g * 1000 / (1000 + r)) hn0 (by unfold wfuel; omega)
  have ha : a.toNat < wfuel := by
    unfold wfuel
    rcases a3 with a3 | a3
    · have : g * 1000 / (1000 + r) ≤ g := Int.ediv_le_of_le_mul (by omega) (Int.mul_le_mul_of_nonneg_left (by omega) h1)
      omega
    · have := gr_ge (a := a) (by omega) h3
      omega
  obtain ⟨b, b0, b1, b2, b3, b4⟩ := down_ok n tab h1 h3 h4 wfuel a (by omega) ha a2
  refine ⟨b, b0, ?_, b2, b3, ?_⟩
  · have := gr_ge (a := b) b0 h3
    omega
  · rw [call_of (n + 1) (g := f_net_of) rfl]
    unfold runF f_net_of b_net_of_3 s_net_of_1 s_net_of_2 s_net_of_4 s_net_of_6 s_net_of_7
    simp [startE, varOf, mvOf, con_most, is_whole_int, h1, h3, h4, show g ≤ 1000000000000 by omega, binD, binI, i64, show 0 < 1000 + r by omega, show 1000 + r < 18446744073709551616 by omega, -tst_k, a4, b4]
end
end K09

end
section
set_option Elab.async false
set_option linter.all false
set_option maxRecDepth 100000
set_option maxHeartbeats 1000000
namespace K09
open PySem SH
/-- weights -/
structure Wts (ws : List Int) : Prop where
  len : 1 ≤ ws.length ∧ ws.length ≤ 40
  rng : ∀ w ∈ ws, 0 ≤ w ∧ w ≤ 1000000000000
  pos : 0 < ws.sum
  lt : ws.sum < 18446744073709551616
section
variable (n : Nat) (tab : List Ob)
theorem tups (ws : List Int) : D.tup (ws.map D.int) = .tup (ws.map D.int) := rfl
theorem bls_t (m : Nat) (b : Bool) : blsOf (List.replicate m (D.bl b)) = some (List.replicate m b) := by
  have := blsOf_map (ns := List.replicate m b)
  rw [List.map_replicate] at this
  exact this
theorem need_ok {a : Int} {ws : List Int} (h1 : 0 ≤ a) (h2 : a ≤ 1000000000000) (h : Wts ws) : prg.call (n + 2) "need_sum" [.int a, .tup (ws.map D.int)] tab = .ok (.d .non) tab := by
  obtain ⟨l1, l2⟩ := h.len
  have hp := h.pos
  have hq : eval (prg.kt (n + 1)) q_need_sum_0 ⟨[some (.d (.int a)), some (.d (.tup (ws.map D.int))), none], tab⟩ = .ok (.o (List.replicate ws.length (.bl true))) ⟨[some (.d (.int a)), some (.d (.tup (ws.map D.int))), none], tab⟩ := by
    unfold q_need_sum_0
    simp only [ev_comp, it_seq, so_bor]
    have e1 : borOf 1 ⟨[some (.d (.int a)), some (.d (.tup (ws.map D.int))), none], tab⟩ = .ok (.d (.tup (ws.map D.int)), none) ⟨[some (.d (.int a)), some (.d (.tup (ws.map D.int))), none], tab⟩ := rfl
    rw [e1, kSeq_ok]
    show kComp _ _ _ _ _ (R.ok (Src.mk (ws.map D.int) [(.d (.tup (ws.map D.int)), none)]) _) = _
    rw [kComp_ok, if_pos (by simp [lim]; omega)]
    rw [loopC_map (E := [some (.d (.int a)), some (.d (.tup (ws.map D.int))), none]) (fun _ => .bl true) _ _ _ rfl fun x hx => ?_]
    · show R.ok (Ev.o ([] ++ (ws.map D.int).map fun _ => .bl true)) _ = _
      simp [Function.comp_def, List.map_const']
    · obtain ⟨w, hw, rfl⟩ := List.mem_map.mp hx
      obtain ⟨w1, w2⟩ := h.rng w hw
      exact ⟨[some (.d (.int a)), some (.d (.tup (ws.map D.int))), some (.d (.int w))], _, [some (.d (.int a)), some (.d (.tup (ws.map D.int))), some (.d (.int w))], rfl, rfl, by simp [varOf, con_most, is_whole_int, w1, w2], rfl⟩
  rw [call_of (n + 1) (g := f_need_sum) rfl]
  unfold runF f_need_sum b_need_sum_2 s_need_sum_1 s_need_sum_3
  simp [startE, varOf, con_most, is_whole_int, h1, h2, isT, biD, seqOf, cmpD, cmpO, cmpI, l1, l2, hq, lstOf, bls_t, datOf, okD, eqD, show (ws.sum == 0) = false from beq_false_of_ne (by omega), show (1 : Int) ≤ (ws.length : Int) by omega, show (ws.length : Int) ≤ 40 by omega]
end
end K09

end
section
set_option Elab.async false
set_option linter.all false
set_option maxRecDepth 100000
set_option maxHeartbeats 1000000
namespace K09
open PySem SH
section
variable (n : Nat) (tab : List Ob)
def stepsF (a W : Int) : List Int → Int → Int → List Int
  | [], _, _ => []
  | w :: r, sf, last => (a * (sf + w) / W - last) :: stepsF a W r (sf + w) (a * (sf + w) / W)
theorem stepsF_length (a W : Int) : ∀ (r : List Int) (sf last : Int), (stepsF a W r sf last).length = r.length
  | [], _, _ => rfl
  | w :: r, sf, last => by simp [stepsF, stepsF_length a W r]
theorem steps_loop {a W : Int} (ha : i64 a = true) (hW : 0 < W) (hW2 : W < 18446744073709551616) (tp : Ev) : ∀ (r : List Int) (w0 now0 : Option Ev) (sf last : Int) (acc : List Int), acc.length + r.length < lim →
    ∃ w1 now1 sf1 last1, forL (bindG (.name 2)) (execs (prg.kt n) b_step_parts_0) (r.map D.int) ⟨[some (.d (.int a)), some tp, w0, some (.d (.int W)), some (.d (.int sf)), some (.d (.int last)), some (.o (acc.map D.int)), now0], tab⟩ =
      .nx ⟨[some (.d (.int a)), some tp, w1, some (.d (.int W)), sf1, last1, some (.o ((acc ++ stepsF a W r sf last).map D.int)), now1], tab⟩
  | [], w0, now0, sf, last, acc, h => ⟨w0, now0, _, _, by simp [stepsF]; rfl⟩
  | w :: r, w0, now0, sf, last, acc, h => by
    have hlen : acc.length < lim := by simp at h; omega
    have hb : execs (prg.kt n) b_step_parts_0 ⟨[some (.d (.int a)), some tp, some (.d (.int w)), some (.d (.int W)), some (.d (.int sf)), some (.d (.int last)), some (.o (acc.map D.int)), now0], tab⟩ =
        .nx ⟨[some (.d (.int a)), some tp, some (.d (.int w)), some (.d (.int W)), some (.d (.int (sf + w))), some (.d (.int (a * (sf + w) / W))), some (.o ((acc ++ [a * (sf + w) / W - last]).map D.int)), some (.d (.int (a * (sf + w) / W)))], tab⟩ := by
      unfold b_step_parts_0 s_step_parts_1 s_step_parts_2 s_step_parts_3 s_step_parts_4
      simp [varOf, augI, binD, binI, ha, hW, hW2, lstOf, putL, hlen]
    obtain ⟨w1, now1, sf1, last1, e⟩ := steps_loop ha hW hW2 tp r (some (.d (.int w))) (some (.d (.int (a * (sf + w) / W)))) (sf + w) (a * (sf + w) / W) (acc ++ [a * (sf + w) / W - last]) (by simp at h ⊢; omega)
    refine ⟨w1, now1, sf1, last1, ?_⟩
    have e2 : forL (bindG (.name 2)) (execs (prg.kt n) b_step_parts_0) ((w :: r).map D.int) ⟨[some (.d (.int a)), some tp, w0, some (.d (.int W)), some (.d (.int sf)), some (.d (.int last)), some (.o (acc.map D.int)), now0], tab⟩ =
        forL (bindG (.name 2)) (execs (prg.kt n) b_step_parts_0) (r.map D.int) ⟨[some (.d (.int a)), some tp, some (.d (.int w)), some (.d (.int W)), some (.d (.int (sf + w))), some (.d (.int (a * (sf + w) / W))), some (.o ((acc ++ [a * (sf + w) / W - last]).map D.int)), some (.d (.int (a * (sf + w) / W)))], tab⟩ := by
      show (match execs (prg.kt n) b_step_parts_0 ⟨[some (.d (.int a)), some tp, some (.d (.int w)), some (.d (.int W)), some (.d (.int sf)), some (.d (.int last)), some (.o (acc.map D.int)), now0], tab⟩ with
        | .nx s => forL (bindG (.name 2)) (execs (prg.kt n) b_step_parts_0) (r.map D.int) s
        | .ct s => forL (bindG (.name 2)) (execs (prg.kt n) b_step_parts_0) (r.map D.int) s
        | .bk s => .nx s
        | f => f) = _
      rw [hb]
    rw [e2, e]
    simp [stepsF]
theorem step_ok {a : Int} {ws : List Int} (h1 : 0 ≤ a) (h2 : a ≤ 1000000000000) (h : Wts ws) : prg.call (n + 1) "step_parts" [.int a, .tup (ws.map D.int)] tab = .ok (.d (.tup ((stepsF a ws.sum ws 0 0).map D.int))) tab := by
  obtain ⟨l1, l2⟩ := h.len
  have ha : i64 a = true := by simp [i64]; omega
  obtain ⟨w1, now1, sf1, last1, e⟩ := steps_loop n tab ha h.pos h.lt (.d (.tup (ws.map D.int))) ws none none 0 0 [] (by simp [lim]; omega)
  rw [call_of n (g := f_step_parts) rfl]
  unfold runF f_step_parts b_step_parts_1 s_step_parts_0 s_step_parts_5 s_step_parts_6
  simp only [List.map_nil] at e
  simp [startE, varOf, biD, seqOf, setAll, itemsOf, e, lim]
theorem stepped_ok {a : Int} {ws : List Int} (h1 : 0 ≤ a) (h2 : a ≤ 1000000000000) (h : Wts ws) : prg.call (n + 3) "stepped" [.int a, .tup (ws.map D.int)] tab = .ok (.d (.tup ((stepsF a ws.sum ws 0 0).map D.int))) tab := by
  rw [call_of (n + 2) (g := f_stepped) rfl]
  unfold runF f_stepped b_stepped_0 s_stepped_0 s_stepped_1
  simp [startE, varOf, need_ok n tab h1 h2 h, step_ok (n + 1) tab h1 h2 h]
end
end K09

end
section
set_option Elab.async false
set_option linter.all false
set_option maxRecDepth 100000
set_option maxHeartbeats 1000000
namespace K09
open SH
/-! ### sorted pairs -/
theorem insB_perm {α : Type} (le : α → α → Bool) (x : α) : ∀ l : List α, (insB le x l).Perm (x :: l)
  | [] => List.Perm.refl _
  | y :: r => by
    unfold insB
    split
    · exact List.Perm.refl _
    · exact (List.Perm.cons y (insB_perm le x r)).trans (List.Perm.swap x y r)
theorem isort_perm {α : Type} (le : α → α → Bool) : ∀ l : List α, (isort le l).Perm l
  | [] => List.Perm.refl _
  | x :: r => (insB_perm le x _).trans (List.Perm.cons x (isort_perm le r))
theorem insB_sorted {α : Type} {le : α → α → Bool} (tot : ∀ x y, le x y = false → le y x = true) (tr : ∀ x y z, le x y = true → le y z = true → le x z = true) (x : α) : ∀ l : List α, l.Pairwise (fun a b => le a b = true) → (insB le x l).Pairwise fun a b => le a b = true
  | [], _ => by simp [insB]
  | y :: r, h => by
    rw [List.pairwise_cons] at h
    unfold insB
    split
    · rename_i hx
      rw [List.pairwise_cons, List.pairwise_cons]
      refine ⟨fun z hz => ?_, h⟩
      rcases List.mem_cons.mp hz with e | hz
      · rw [e]; exact hx
      · exact tr _ _ _ hx (h.1 z hz)
    · rename_i hx
      rw [List.pairwise_cons]
      refine ⟨fun z hz => ?_, insB_sorted tot tr x r h.2⟩
      rcases List.mem_cons.mp ((insB_perm le x r).subset hz) with e | hz
      · rw [e]; exact tot _ _ (by simpa using hx)
      · exact h.1 z hz
theorem isort_sorted {α : Type} {le : α → α → Bool} (tot : ∀ x y, le x y = false → le y x = true) (tr : ∀ x y z, le x y = true → le y z = true → le x z = true) : ∀ l : List α, (isort le l).Pairwise fun a b => le a b = true
  | [] => List.Pairwise.nil
  | x :: r => insB_sorted tot tr x _ (isort_sorted tot tr r)
theorem leP_iff {p q : Int × Int} : leP p q = true ↔ p.1 < q.1 ∨ (p.1 = q.1 ∧ p.2 ≤ q.2) := by
  unfold leP
  simp
theorem sortP_perm (l : List (Int × Int)) : (sortP l).Perm l := isort_perm leP l
theorem sortP_sorted (l : List (Int × Int)) : (sortP l).Pairwise fun p q => p.1 < q.1 ∨ (p.1 = q.1 ∧ p.2 ≤ q.2) := by
  have := isort_sorted (le := leP) (fun x y h => by
    have h1 : ¬ (leP x y = true) := by rw [h]; decide
    rw [leP_iff] at h1 ⊢
    omega) (fun x y z h1 h2 => by
    rw [leP_iff] at h1 h2 ⊢
    omega) l
  exact this.imp fun h => leP_iff.mp h
/-! ### one more at some places -/
def bump : List Int → List Nat → List Int
  | l, [] => l
  | l, i :: r => bump (l.set i (l.getD i 0 + 1)) r
theorem bump_length : ∀ (ix : List Nat) (l : List Int), (bump l ix).length = l.length
  | [], l => rfl
  | i :: r, l => by unfold bump; rw [bump_length r, List.length_set]
theorem sum_set (l : List Int) : ∀ (i : Nat) (x : Int), i < l.length → (l.set i x).sum = l.sum - l.getD i 0 + x := by
  induction l with
  | nil => intro i x h; simp at h
  | cons y r ih =>
    intro i x h
    cases i with
    | zero => simp; omega
    | succ i =>
      have := ih i x (by simpa using h)
      simp at this ⊢
      omega
theorem bump_sum : ∀ (ix : List Nat) (l : List Int), (∀ i ∈ ix, i < l.length) → (bump l ix).sum = l.sum + ix.length
  | [], l, _ => by simp [bump]
  | i :: r, l, h => by
    unfold bump
    rw [bump_sum r _ fun j hj => by rw [List.length_set]; exact h j (List.mem_cons_of_mem _ hj), sum_set l i _ (h i List.mem_cons_self)]
    simp
    omega
theorem bump_get : ∀ (ix : List Nat) (l : List Int), ix.Nodup → ∀ j, j < l.length → (bump l ix).getD j 0 = l.getD j 0 + if j ∈ ix then 1 else 0
  | [], l, _, j, hj => by simp [bump]
  | i :: r, l, h, j, hj => by
    rw [List.nodup_cons] at h
    unfold bump
    rw [bump_get r _ h.2 j (by rw [List.length_set]; exact hj)]
    by_cases e : i = j
    · subst e
      rw [if_neg h.1, if_pos List.mem_cons_self]
      simp [List.getD_eq_getElem?_getD, hj]
    · rw [List.getD_eq_getElem?_getD, List.getElem?_set_ne e, ← List.getD_eq_getElem?_getD]
      by_cases hm : j ∈ r
      · rw [if_pos hm, if_pos (List.mem_cons_of_mem _ hm)]
      · rw [if_neg hm, if_neg]
        intro z
        rcases List.mem_cons.mp z with z | z
        · exact e z.symm
        · exact hm z
/-! ### parts by weights: floors, one more for the greatest rests -/
def floors (a W : Int) (ws : List Int) : List Int := ws.map fun w => a * w / W
def restPs (a W : Int) (ws : List Int) : List (Int × Int) := ws.zipIdx.map fun p => (-(a * p.1 % W), (p.2 : Int))
def extra (a W : Int) (ws : List Int) : Nat := (a - (floors a W ws).sum).toNat
def topIx (a W : Int) (ws : List Int) : List Nat := ((sortP (restPs a W ws)).take (extra a W ws)).map fun p => p.2.toNat
def partsF (a W : Int) (ws : List Int) : List Int := bump (floors a W ws) (topIx a W ws)
end K09

end
section
set_option Elab.async false
set_option linter.all false
set_option maxRecDepth 100000
set_option maxHeartbeats 1000000
namespace K09
open SH
section
variable {a W : Int} {ws : List Int}
def rests (a W : Int) (ws : List Int) : List Int := ws.map fun w => a * w % W
theorem sum_split (hW : 0 < W) : ∀ ws : List Int, (floors a W ws).sum * W + (rests a W ws).sum = a * ws.sum
  | [] => by simp [floors, rests]
  | w :: r => by
    have ih := sum_split hW r
    have h := Int.mul_ediv_add_emod (a * w) W
    simp only [floors, rests, List.map_cons, List.sum_cons] at ih ⊢
    rw [Int.add_mul, Int.mul_add]
    have e : a * w / W * W = W * (a * w / W) := Int.mul_comm _ _
    omega
theorem sum_le {l : List Int} {B : Int} (h : ∀ x ∈ l, x ≤ B) : l.sum ≤ l.length * B := by
  induction l with
  | nil => simp
  | cons x r ih =>
    have h1 := ih fun y hy => h y (List.mem_cons_of_mem _ hy)
    have h2 := h x List.mem_cons_self
    rw [List.sum_cons, List.length_cons, show ((r.length + 1 : Nat) : Int) = (r.length : Int) + 1 from rfl, Int.add_mul, Int.one_mul]
    omega
theorem sum_nonneg {l : List Int} (h : ∀ x ∈ l, 0 ≤ x) : 0 ≤ l.sum := by
  induction l with
  | nil => simp
  | cons x r ih =>
    have h1 := ih fun y hy => h y (List.mem_cons_of_mem _ hy)
    have h2 := h x List.mem_cons_self
    simp only [List.sum_cons]
    omega
theorem sum_perm {l l' : List Int} (h : l.Perm l') : l.sum = l'.sum := by
  induction h with
  | nil => rfl
  | cons x _ ih => simp [ih]
  | swap x y l => simp only [List.sum_cons]; omega
  | trans _ _ h1 h2 => exact h1.trans h2
theorem rests_rng (hW : 0 < W) : ∀ x ∈ rests a W ws, 0 ≤ x ∧ x ≤ W - 1 := fun x hx => by
  obtain ⟨w, _, rfl⟩ := List.mem_map.mp hx
  have h1 := Int.emod_nonneg (a * w) (show W ≠ 0 by omega)
  have h2 := Int.emod_lt_of_pos (a * w) hW
  omega
theorem restPs_length : (restPs a W ws).length = ws.length := by simp [restPs]
theorem restPs_get {i : Nat} (h : i < ws.length) : (restPs a W ws)[i]? = some (-(a * ws[i] % W), (i : Int)) := by
  simp [restPs, List.getElem?_zipIdx, h]
theorem restPs_mem {p : Int × Int} : p ∈ restPs a W ws ↔ ∃ i, ∃ h : i < ws.length, p = (-(a * ws[i] % W), (i : Int)) := by
  rw [List.mem_iff_getElem?]
  constructor
  · rintro ⟨i, hi⟩
    have h : i < ws.length := by
      have := (List.getElem?_eq_some_iff.mp hi).1
      rwa [restPs_length] at this
    rw [restPs_get h] at hi
    exact ⟨i, h, (Option.some.inj hi).symm⟩
  · rintro ⟨i, h, rfl⟩
    exact ⟨i, restPs_get h⟩
theorem restPs_neg : (restPs a W ws).map (fun p => -p.1) = rests a W ws := by
  apply List.ext_getElem?
  intro i
  by_cases h : i < ws.length
  · rw [List.getElem?_map, restPs_get h]
    simp [rests, h]
  · rw [List.getElem?_eq_none (by simp [restPs_length]; omega), List.getElem?_eq_none (by simp [rests]; omega)]
theorem restPs_ix : (restPs a W ws).map (fun p => p.2.toNat) = List.range ws.length := by
  apply List.ext_getElem?
  intro i
  by_cases h : i < ws.length
  · rw [List.getElem?_map, restPs_get h]
    simp [h]
  · rw [List.getElem?_eq_none (by simp [restPs_length]; omega), List.getElem?_eq_none (by simp; omega)]
theorem extra_eq (hW : 0 < W) (hs : ws.sum = W) : 0 ≤ a - (floors a W ws).sum ∧ (a - (floors a W ws).sum) * W = (rests a W ws).sum ∧ a - (floors a W ws).sum ≤ ws.length := by
  have h1 := sum_split (a := a) hW ws
  rw [hs] at h1
  have h2 : (a - (floors a W ws).sum) * W = (rests a W ws).sum := by
    rw [Int.sub_mul]
    omega
  have h3 := sum_nonneg fun x hx => (rests_rng (a := a) (ws := ws) hW x hx).1
  have h4 := sum_le (B := W - 1) fun x hx => (rests_rng (a := a) (ws := ws) hW x hx).2
  have hl : (rests a W ws).length = ws.length := by simp [rests]
  rw [hl] at h4
  refine ⟨?_, h2, ?_⟩
  · rcases Int.lt_or_le (a - (floors a W ws).sum) 0 with q | q
    · have := Int.mul_neg_of_neg_of_pos q hW
      omega
    · exact q
  · rcases Int.lt_or_le (ws.length : Int) (a - (floors a W ws).sum) with q | q
    · exfalso
      have q2 : ((ws.length : Int) + 1) * W ≤ (a - (floors a W ws).sum) * W := Int.mul_le_mul_of_nonneg_right (by omega) (by omega)
      rw [h2] at q2
      have q3 : (ws.length : Int) * (W - 1) = ws.length * W - ws.length := by rw [Int.mul_sub, Int.mul_one]
      rw [q3] at h4
      rw [Int.add_mul, Int.one_mul] at q2
      omega
    · exact q
theorem topIx_sub : (topIx a W ws).Sublist ((sortP (restPs a W ws)).map fun p => p.2.toNat) := (List.take_sublist _ _).map _
theorem ix_perm : ((sortP (restPs a W ws)).map fun p => p.2.toNat).Perm (List.range ws.length) := by
  rw [← restPs_ix (a := a) (W := W)]
  exact (sortP_perm _).map _
theorem topIx_nodup : (topIx a W ws).Nodup := (ix_perm.nodup_iff.mpr List.nodup_range).sublist topIx_sub
theorem topIx_lt : ∀ i ∈ topIx a W ws, i < ws.length := fun i hi => by
  have := ix_perm.subset (topIx_sub.subset hi)
  simpa using this
theorem topIx_length (hW : 0 < W) (hs : ws.sum = W) : (topIx a W ws).length = extra a W ws := by
  obtain ⟨h1, h2, h3⟩ := extra_eq (a := a) hW hs
  unfold topIx
  rw [List.length_map, List.length_take, (sortP_perm _).length_eq, restPs_length]
  unfold extra
  omega
theorem parts_sum (hW : 0 < W) (hs : ws.sum = W) : (partsF a W ws).sum = a := by
  obtain ⟨h1, h2, h3⟩ := extra_eq (a := a) hW hs
  unfold partsF
  rw [bump_sum _ _ fun i hi => by have := topIx_lt i hi; simpa [floors] using this, topIx_length hW hs]
  unfold extra
  omega
theorem parts_length : (partsF a W ws).length = ws.length := by
  unfold partsF
  rw [bump_length]
  simp [floors]
theorem parts_get {i : Nat} (h : i < ws.length) : (partsF a W ws).getD i 0 = a * ws[i] / W + if i ∈ topIx a W ws then 1 else 0 := by
  unfold partsF
  rw [bump_get _ _ topIx_nodup i (by simpa [floors] using h)]
  simp [floors, List.getD_eq_getElem?_getD, h]
theorem top_mem {j : Nat} : j ∈ topIx a W ws ↔ ∃ h : j < ws.length, (-(a * ws[j] % W), (j : Int)) ∈ (sortP (restPs a W ws)).take (extra a W ws) := by
  unfold topIx
  rw [List.mem_map]
  constructor
  · rintro ⟨p, hp, rfl⟩
    have hm := (sortP_perm _).subset (List.mem_of_mem_take hp)
    obtain ⟨i, h, rfl⟩ := restPs_mem.mp hm
    exact ⟨by simpa using h, by simpa using hp⟩
  · rintro ⟨h, hp⟩
    exact ⟨_, hp, by simp⟩
/-- who gets one more is not behind who gets none -/
theorem top_order {i j : Nat} (hi : i < ws.length) (hj : j < ws.length) (ni : i ∉ topIx a W ws) (mj : j ∈ topIx a W ws) : a * ws[i] % W < a * ws[j] % W ∨ (a * ws[i] % W = a * ws[j] % W ∧ j ≤ i) := by
  obtain ⟨_, h1⟩ := top_mem.mp mj
  have h2 : (-(a * ws[i] % W), (i : Int)) ∈ sortP (restPs a W ws) := (sortP_perm _).symm.subset (restPs_mem.mpr ⟨i, hi, rfl⟩)
  have sp := sortP_sorted (restPs a W ws)
  rw [← List.take_append_drop (extra a W ws) (sortP (restPs a W ws))] at h2 sp
  rw [List.pairwise_append] at sp
  rcases List.mem_append.mp h2 with q | q
  · exact absurd (top_mem.mpr ⟨hi, q⟩) ni
  · have := sp.2.2 _ h1 _ q
    simp only at this
    omega
/-- who gets one more has a rest -/
theorem top_pos (hW : 0 < W) (hs : ws.sum = W) {j : Nat} (hj : j < ws.length) (mj : j ∈ topIx a W ws) : a * ws[j] % W ≠ 0 := by
  intro h0
  obtain ⟨_, h1⟩ := top_mem.mp mj
  obtain ⟨x1, x2, x3⟩ := extra_eq (a := a) hW hs
  obtain ⟨A, B, hAB⟩ := List.append_of_mem h1
  have hL : sortP (restPs a W ws) = A ++ (-(a * ws[j] % W), (j : Int)) :: (B ++ (sortP (restPs a W ws)).drop (extra a W ws)) := by
    conv => lhs; rw [← List.take_append_drop (extra a W ws) (sortP (restPs a W ws)), hAB]
    simp
  have sp := sortP_sorted (restPs a W ws)
  have nn : ∀ p ∈ sortP (restPs a W ws), -(W - 1) ≤ p.1 ∧ p.1 ≤ 0 := fun p hp => by
    obtain ⟨i, hi, rfl⟩ := restPs_mem.mp ((sortP_perm _).subset hp)
    have k1 := Int.emod_nonneg (a * ws[i]) (show W ≠ 0 by omega)
    have k2 := Int.emod_lt_of_pos (a * ws[i]) hW
    simp only
    omega
  have hsum : ((sortP (restPs a W ws)).map fun p => -p.1).sum = (rests a W ws).sum := by
    rw [← restPs_neg]
    exact sum_perm ((sortP_perm _).map _)
  rw [hL] at hsum sp nn
  rw [List.pairwise_append, List.pairwise_cons] at sp
  rw [List.map_append, List.map_cons, List.sum_append, List.sum_cons] at hsum
  have hz : ((B ++ (sortP (restPs a W ws)).drop (extra a W ws)).map fun p => -p.1).sum ≤ 0 := by
    have := sum_le (l := (B ++ (sortP (restPs a W ws)).drop (extra a W ws)).map fun p => -p.1) (B := 0) fun x hx => by
      obtain ⟨p, hp, rfl⟩ := List.mem_map.mp hx
      have := sp.2.1.1 p hp
      simp only [h0] at this
      omega
    simpa using this
  have hA : (A.map fun p => -p.1).sum ≤ (A.length : Int) * (W - 1) := by
    have := sum_le (l := A.map fun p => -p.1) (B := W - 1) fun x hx => by
      obtain ⟨p, hp, rfl⟩ := List.mem_map.mp hx
      have := (nn p (List.mem_append_left _ hp)).1
      omega
    simpa using this
  have hlen : A.length + 1 ≤ extra a W ws := by
    have := congrArg List.length hAB
    rw [List.length_take] at this
    simp at this
    omega
  have hk : (extra a W ws : Int) = a - (floors a W ws).sum := by unfold extra; omega
  have y1 : ((A.length : Int) + 1) * W ≤ (extra a W ws : Int) * W := Int.mul_le_mul_of_nonneg_right (by omega) (by omega)
  rw [hk, x2] at y1
  rw [Int.add_mul, Int.one_mul] at y1
  rw [Int.mul_sub, Int.mul_one] at hA
  omega
end
end K09

end
section
set_option Elab.async false
set_option linter.all false
set_option maxRecDepth 100000
set_option maxHeartbeats 1000000
namespace K09
open PySem SH
theorem pairsOf_map : ∀ ps : List (Int × Int), pairsOf (ps.map prD2) = some ps
  | [] => rfl
  | p :: r => by
    show (pairsOf (r.map prD2)).map ((p.1, p.2) :: ·) = _
    rw [pairsOf_map r]
    rfl
theorem atI_map {l : List Int} {i : Nat} (h : i < l.length) : L2.atI (l.map D.int) (i : Int) = some (.int (l.getD i 0)) := by
  simp [L2.atI, L2.ixN, h, List.getD_eq_getElem?_getD]
theorem ixN_nat {i n : Nat} (h : i < n) : L2.ixN n (i : Int) = some i := by simp [L2.ixN, h]
section
variable (n : Nat) (tab : List Ob)
theorem parts_loop (e0 e1 e2 e4 e7 : Option Ev) : ∀ (r : List (Int × Int)) (l : List Int) (e5 e6 : Option Ev), (∀ p ∈ r, ∃ i : Nat, p.2 = (i : Int) ∧ i < l.length) →
    ∃ e5' e6', forL (bindG (.tup (.cons (.name 5) (.cons (.name 6) .nil)))) (execs (prg.kt n) b_shared_by_0) (r.map prD2) ⟨[e0, e1, e2, some (.o (l.map D.int)), e4, e5, e6, e7], tab⟩ =
      .nx ⟨[e0, e1, e2, some (.o ((bump l (r.map fun p => p.2.toNat)).map D.int)), e4, e5', e6', e7], tab⟩
  | [], l, e5, e6, _ => ⟨e5, e6, rfl⟩
  | p :: r, l, e5, e6, h => by
    obtain ⟨i, hi, hl⟩ := h p List.mem_cons_self
    have hb : execs (prg.kt n) b_shared_by_0 ⟨[e0, e1, e2, some (.o (l.map D.int)), e4, some (.d (.int p.1)), some (.d (.int p.2)), e7], tab⟩ =
        .nx ⟨[e0, e1, e2, some (.o ((l.set i (l.getD i 0 + 1)).map D.int)), e4, some (.d (.int p.1)), some (.d (.int p.2)), e7], tab⟩ := by
      unfold b_shared_by_0 s_shared_by_3
      simp only [hi]
      simp only [xs_cons, xs_nil, x_augIx, bo_var, kAi_ok, ev_var, varOf, List.getElem?_cons_succ, List.getElem?_cons_zero, Option.join_some, rsv_sl, kAi2_ok, Option.bind_some, lstOf, List.set_cons_succ, List.set_cons_zero, toD_d, atI_map hl, ev_int, kAi3_ok, augI, putL, setAt, List.length_map, ixN_nat hl, Option.map_some, kSq_nx, List.map_set]
    obtain ⟨e5', e6', e⟩ := parts_loop e0 e1 e2 e4 e7 r (l.set i (l.getD i 0 + 1)) (some (.d (.int p.1))) (some (.d (.int p.2))) fun q hq => by
      rw [List.length_set]
      exact h q (List.mem_cons_of_mem _ hq)
    refine ⟨e5', e6', ?_⟩
    have st : forL (bindG (.tup (.cons (.name 5) (.cons (.name 6) .nil)))) (execs (prg.kt n) b_shared_by_0) ((p :: r).map prD2) ⟨[e0, e1, e2, some (.o (l.map D.int)), e4, e5, e6, e7], tab⟩ =
        forL (bindG (.tup (.cons (.name 5) (.cons (.name 6) .nil)))) (execs (prg.kt n) b_shared_by_0) (r.map prD2) ⟨[e0, e1, e2, some (.o ((l.set i (l.getD i 0 + 1)).map D.int)), e4, some (.d (.int p.1)), some (.d (.int p.2)), e7], tab⟩ := by
      show (match execs (prg.kt n) b_shared_by_0 ⟨[e0, e1, e2, some (.o (l.map D.int)), e4, some (.d (.int p.1)), some (.d (.int p.2)), e7], tab⟩ with
        | .nx s => forL (bindG (.tup (.cons (.name 5) (.cons (.name 6) .nil)))) (execs (prg.kt n) b_shared_by_0) (r.map prD2) s
        | .ct s => forL (bindG (.tup (.cons (.name 5) (.cons (.name 6) .nil)))) (execs (prg.kt n) b_shared_by_0) (r.map prD2) s
        | .bk s => .nx s
        | f => f) = _
      rw [hb]
    rw [st, e]
    have e0' : p.2.toNat = i := by rw [hi]; simp
    show _ = SH.F.nx ⟨[e0, e1, e2, some (.o ((bump l (p.2.toNat :: r.map fun p => p.2.toNat)).map D.int)), e4, e5', e6', e7], tab⟩
    rw [e0']
    rfl
def fRest (a W : Int) : D → D
  | .tup [.int i, .int w] => .tup [.int (-(a * w % W)), .int i]
  | d => d
theorem enum_rest (a W : Int) (ws : List Int) : (enumD (ws.map D.int)).map (fRest a W) = (restPs a W ws).map prD2 := by
  unfold enumD restPs
  rw [List.zipIdx_map, List.map_map, List.map_map, List.map_map]
  rfl
theorem shared_by_ok {a : Int} {ws : List Int} (h1 : 0 ≤ a) (h2 : a ≤ 1000000000000) (h : Wts ws) : prg.call (n + 1) "shared_by" [.int a, .tup (ws.map D.int)] tab = .ok (.d (.tup ((partsF a ws.sum ws).map D.int))) tab := by
  obtain ⟨l1, l2⟩ := h.len
  have ha : i64 a = true := by simp [i64]; omega
  have hp := h.pos
  have hlt := h.lt
  obtain ⟨W, hW⟩ : ∃ W, W = ws.sum := ⟨_, rfl⟩
  rw [← hW] at hp hlt
  obtain ⟨x1, x2, x3⟩ := extra_eq (a := a) hp hW.symm
  have q0 : eval (prg.kt n) q_shared_by_0 ⟨[some (.d (.int a)), some (.d (.tup (ws.map D.int))), some (.d (.int W)), none, none, none, none, none], tab⟩ = .ok (.o ((floors a W ws).map D.int)) ⟨[some (.d (.int a)), some (.d (.tup (ws.map D.int))), some (.d (.int W)), none, none, none, none, none], tab⟩ := by
    unfold q_shared_by_0
    simp only [ev_comp, it_seq, so_bor]
    rw [show borOf 1 ⟨[some (.d (.int a)), some (.d (.tup (ws.map D.int))), some (.d (.int W)), none, none, none, none, none], tab⟩ = .ok (.d (.tup (ws.map D.int)), none) ⟨[some (.d (.int a)), some (.d (.tup (ws.map D.int))), some (.d (.int W)), none, none, none, none, none], tab⟩ from rfl, kSeq_ok]
    show kComp _ _ _ _ _ (R.ok (Src.mk (ws.map D.int) [(.d (.tup (ws.map D.int)), none)]) _) = _
    rw [kComp_ok, if_pos (by simp [lim]; omega)]
    rw [loopC_map (E := [some (.d (.int a)), some (.d (.tup (ws.map D.int))), some (.d (.int W)), none, none, none, none, none]) (fun d => match d with
      | .int w => .int (a * w / W)
      | d => d) _ _ _ rfl fun x hx => ?_]
    · show R.ok (Ev.o ([] ++ (ws.map D.int).map _)) _ = _
      rw [List.nil_append, List.map_map]
      unfold floors
      rw [List.map_map]
      rfl
    · obtain ⟨w, hw, rfl⟩ := List.mem_map.mp hx
      exact ⟨[some (.d (.int a)), some (.d (.tup (ws.map D.int))), some (.d (.int W)), none, none, none, none, some (.d (.int w))], _, [some (.d (.int a)), some (.d (.tup (ws.map D.int))), some (.d (.int W)), none, none, none, none, some (.d (.int w))], rfl, rfl, by simp [varOf, binD, binI, ha, hp, hlt], rfl⟩
  have q1 : ∀ e3 : Option Ev, eval (prg.kt n) q_shared_by_1 ⟨[some (.d (.int a)), some (.d (.tup (ws.map D.int))), some (.d (.int W)), e3, none, none, none, none], tab⟩ = .ok (.o ((restPs a W ws).map prD2)) ⟨[some (.d (.int a)), some (.d (.tup (ws.map D.int))), some (.d (.int W)), e3, none, none, none, none], tab⟩ := fun e3 => by
    unfold q_shared_by_1
    simp only [ev_comp, it_enum, so_bor]
    rw [show borOf 1 ⟨[some (.d (.int a)), some (.d (.tup (ws.map D.int))), some (.d (.int W)), e3, none, none, none, none], tab⟩ = .ok (.d (.tup (ws.map D.int)), none) ⟨[some (.d (.int a)), some (.d (.tup (ws.map D.int))), some (.d (.int W)), e3, none, none, none, none], tab⟩ from rfl, kEnum_ok]
    show kComp _ _ _ _ _ (R.ok (Src.mk (enumD (ws.map D.int)) [(.d (.tup (ws.map D.int)), none)]) _) = _
    rw [kComp_ok, if_pos (by simp [lim, enumD]; omega)]
    rw [loopC_map (E := [some (.d (.int a)), some (.d (.tup (ws.map D.int))), some (.d (.int W)), e3, none, none, none, none]) (fRest a W) _ _ _ rfl fun x hx => ?_]
    · show R.ok (Ev.o ([] ++ (enumD (ws.map D.int)).map _)) _ = _
      rw [List.nil_append, enum_rest]
    · obtain ⟨⟨y, i⟩, hy, rfl⟩ := List.mem_map.mp hx
      have hy2 := List.mem_zipIdx' hy
      obtain ⟨w, hw, e⟩ := List.mem_map.mp (show y ∈ ws.map D.int from by rw [hy2.2]; exact List.getElem_mem _)
      subst e
      exact ⟨[some (.d (.int a)), some (.d (.tup (ws.map D.int))), some (.d (.int W)), e3, none, none, some (.d (.int i)), some (.d (.int w))], _, [some (.d (.int a)), some (.d (.tup (ws.map D.int))), some (.d (.int W)), e3, none, none, some (.d (.int i)), some (.d (.int w))], rfl, rfl, by simp [varOf, binD, binI, ha, hp, fRest, lim], rfl⟩
  have hsort : biD .sorted [.o ((restPs a W ws).map prD2)] tab = some (.o ((sortP (restPs a W ws)).map prD2)) := by
    show (match intsOf ((restPs a W ws).map prD2) with
      | some ns => some (Ev.o ((sortI ns).map D.int))
      | none => (pairsOf ((restPs a W ws).map prD2)).map fun ps => Ev.o ((sortP ps).map prD2)) = _
    have hi : intsOf ((restPs a W ws).map prD2) = none := by
      cases hr : restPs a W ws with
      | nil =>
        have := restPs_length (a := a) (W := W) (ws := ws)
        rw [hr] at this
        simp at this
        omega
      | cons p r => rfl
    rw [hi, pairsOf_map]
    rfl
  have hcut : cutD ((sortP (restPs a W ws)).map prD2) none (some (a - (floors a W ws).sum)) = ((sortP (restPs a W ws)).take (extra a W ws)).map prD2 := by
    show List.take ((if a - (floors a W ws).sum < 0 then (a - (floors a W ws).sum + (((sortP (restPs a W ws)).map prD2).length : Int)).toNat else min (extra a W ws) ((sortP (restPs a W ws)).map prD2).length) - 0) ((sortP (restPs a W ws)).map prD2) = _
    rw [if_neg (by omega), Nat.sub_zero, List.map_take, ← List.take_take, List.take_length]
  obtain ⟨e5', e6', hloop⟩ := parts_loop n tab (some (.d (.int a))) (some (.d (.tup (ws.map D.int)))) (some (.d (.int W))) (some (.o ((sortP (restPs a W ws)).map prD2))) none ((sortP (restPs a W ws)).take (extra a W ws)) (floors a W ws) none none fun p hp => by
    obtain ⟨i, hi, rfl⟩ := restPs_mem.mp ((sortP_perm _).subset (List.mem_of_mem_take hp))
    exact ⟨i, rfl, by simpa [floors] using hi⟩
  rw [call_of n (g := f_shared_by) rfl]
  unfold runF f_shared_by b_shared_by_1 s_shared_by_0 s_shared_by_1 s_shared_by_2 s_shared_by_4 s_shared_by_5
  rw [← hW]
  have hsl : slD (.o ((sortP (restPs a W ws)).map prD2)) none (some (a - (floors a W ws).sum)) tab = some (.o (((sortP (restPs a W ws)).take (extra a W ws)).map prD2)) := by
    show some (Ev.o (cutD _ _ _)) = _
    rw [hcut]
  have hlen : biD .sum [.d (.tup (ws.map D.int))] tab = some (.d (.int W)) := by
    show ((intsOf (ws.map D.int)).map fun ns => Ev.d (D.int ns.sum)) = _
    rw [intsOf_map, hW]
    rfl
  have hfl : biD .sum [.o ((floors a W ws).map D.int)] tab = some (.d (.int (floors a W ws).sum)) := by
    show ((intsOf ((floors a W ws).map D.int)).map fun ns => Ev.d (D.int ns.sum)) = _
    rw [intsOf_map]
    rfl
  have htp : biD .tuple [.o ((bump (floors a W ws) (((sortP (restPs a W ws)).take (extra a W ws)).map fun p => p.2.toNat)).map D.int)] tab = some (.d (.tup ((partsF a W ws).map D.int))) := rfl
  simp [startE, varOf, hlen, q0, q1, hsort, hfl, binD, binI, hsl, itemsOf, hloop, htp, -List.map_take]
theorem shared_ok {a : Int} {ws : List Int} (h1 : 0 ≤ a) (h2 : a ≤ 1000000000000) (h : Wts ws) : prg.call (n + 3) "shared" [.int a, .tup (ws.map D.int)] tab = .ok (.d (.tup ((partsF a ws.sum ws).map D.int))) tab := by
  rw [call_of (n + 2) (g := f_shared) rfl]
  unfold runF f_shared b_shared_0 s_shared_0 s_shared_1
  simp [startE, varOf, need_ok n tab h1 h2 h, shared_by_ok (n + 1) tab h1 h2 h]
end
end K09

end
section
set_option Elab.async false
set_option linter.all false
set_option maxRecDepth 100000
set_option maxHeartbeats 2000000
namespace K09
open PySem SH
theorem ints_of {P : Int → Prop} : ∀ ys : List D, (∀ y ∈ ys, ∃ w, y = .int w ∧ P w) → ∃ ws : List Int, ys = ws.map D.int ∧ ∀ w ∈ ws, P w
  | [], _ => ⟨[], rfl, fun w hw => by simp at hw⟩
  | y :: r, h => by
    obtain ⟨w, rfl, hw⟩ := h y List.mem_cons_self
    obtain ⟨ws, rfl, h2⟩ := ints_of r fun z hz => h z (List.mem_cons_of_mem _ hz)
    refine ⟨w :: ws, rfl, fun z hz => ?_⟩
    rcases List.mem_cons.mp hz with e | hz
    · rw [e]; exact hw
    · exact h2 z hz
section
variable {ns : List Int} {tab : List Ob}
theorem tk (hr : RowAt tab 0 ns) (many : Int) (h1 : 0 < many) (h2 : many < 18446744073709551616) : ∃ v ob, prg.call 11 "_law_taken" [.ref 0, .int many] tab = .ok (.d (.int v)) (tab.set 0 ob) ∧ 0 ≤ v ∧ v < many ∧ RowAt (tab.set 0 ob) 0 ns := taken_ok (n := 10) get_taken hr h1 h2
theorem pk (hr : RowAt tab 0 ns) (xs : List D) (h1 : 0 < xs.length) (h2 : xs.length < 1000000) : ∃ (v : Nat) (x : D) (ob : Ob), xs[v]? = some x ∧ prg.call 11 "_law_pick" [.ref 0, .lst xs] tab = .ok (.d x) (tab.set 0 ob) ∧ RowAt (tab.set 0 ob) 0 ns := pick_ok (n := 9) get_taken get_pick hr h1 h2
/-- the law's slots up to the weights -/
def envA (ns : List Int) (e2 e3 : Option Ev) (rest : List (Option Ev)) : SH.Env := some (.d (.kl (ns.map D.int))) :: some (.d (.ref 0)) :: e2 :: e3 :: rest
theorem law0 : exec (prg.kt 11) s_law_0 ⟨startE 23 [.kl (ns.map D.int)], []⟩ = SH.F.nx ⟨envA ns none none (List.replicate 19 none), [rowO ns 0 7209 0]⟩ := by
  unfold s_law_0 envA rowO
  simp [startE, varOf, lim, List.replicate_succ]
theorem law1 (hr : RowAt tab 0 ns) (rest : List (Option Ev)) (e3 : Option Ev) : ∃ a tab', 0 ≤ a ∧ a < 1000000 ∧ RowAt tab' 0 ns ∧ exec (prg.kt 11) s_law_1 ⟨envA ns none e3 rest, tab⟩ = SH.F.nx ⟨envA ns (some (.d (.int a))) e3 rest, tab'⟩ := by
  obtain ⟨v, ob, e, v0, v1, hr1⟩ := tk hr 3 (by omega) (by omega)
  have hm : ∃ m : Int, 0 < m ∧ m ≤ 1000000 ∧ L2.atI [D.int 4, D.int 100, D.int 1000000] v = some (.int m) := by
    rcases (show v = 0 ∨ v = 1 ∨ v = 2 by omega) with rfl | rfl | rfl
    · exact ⟨4, by omega, by omega, rfl⟩
    · exact ⟨100, by omega, by omega, rfl⟩
    · exact ⟨1000000, by omega, by omega, rfl⟩
  obtain ⟨m, m0, m1, hm⟩ := hm
  obtain ⟨a, ob2, e2, a0, a1, hr2⟩ := tk hr1 m m0 (by omega)
  refine ⟨a, _, a0, by omega, hr2, ?_⟩
  unfold s_law_1 envA
  simp [varOf, lim, e, ixD, seqOf, hm, e2]
theorem law2 (hr : RowAt tab 0 ns) {a : Int} (e3 : Option Ev) : ∃ (ws : List Int) (tab' : List Ob), 1 ≤ ws.length ∧ ws.length ≤ 6 ∧ (∀ w ∈ ws, 0 ≤ w ∧ w < 50) ∧ RowAt tab' 0 ns ∧
    exec (prg.kt 11) s_law_2 ⟨envA ns (some (.d (.int a))) e3 (List.replicate 19 none), tab⟩ = SH.F.nx ⟨envA ns (some (.d (.int a))) (some (.d (.tup (ws.map D.int)))) (List.replicate 19 none), tab'⟩ := by
  obtain ⟨v, ob, e, v0, v1, hr1⟩ := tk hr 6 (by omega) (by omega)
  obtain ⟨ys, tab', q1, q2, q3, q4⟩ := loopC_inv (bd := bindG (.name 22)) (own := [22]) (fc := cto .nop (eval (prg.kt 11) .nop))
    (fe := eval (prg.kt 11) (.call "_law_taken" (.cons (.var 1) (.cons (.ix (.lst (.cons (.int 3) (.cons (.int 50) .nil))) (.call "_law_taken" (.cons (.var 1) (.cons (.int 2) .nil)))) .nil))))
    (E := envA ns (some (.d (.int a))) e3 (List.replicate 19 none)) (fun tab => RowAt tab 0 ns) (fun y => ∃ w, y = D.int w ∧ (0 ≤ w ∧ w < 50)) (rngD 0 (1 + v)) [] (envA ns (some (.d (.int a))) e3 (List.replicate 19 none)) (tab.set 0 ob) rfl hr1 fun x hx tab ht => by
      obtain ⟨u, ob1, e1, u0, u1, hr2⟩ := tk ht 2 (by omega) (by omega)
      have hm : ∃ m : Int, 0 < m ∧ m ≤ 50 ∧ L2.atI [D.int 3, D.int 50] u = some (.int m) := by
        rcases (show u = 0 ∨ u = 1 by omega) with rfl | rfl
        · exact ⟨3, by omega, by omega, rfl⟩
        · exact ⟨50, by omega, by omega, rfl⟩
      obtain ⟨m, m0, m1, hm⟩ := hm
      obtain ⟨w, ob2, e2, w0, w1, hr3⟩ := tk hr2 m m0 (by omega)
      refine ⟨envA ns (some (.d (.int a))) e3 (List.replicate 18 none ++ [some (.d x)]), _, envA ns (some (.d (.int a))) e3 (List.replicate 18 none ++ [some (.d x)]), _, .int w, rfl, rfl, ?_, rfl, hr3, w, rfl, w0, by omega⟩
      unfold envA
      simp [varOf, lim, e1, ixD, seqOf, hm, e2]
  obtain ⟨ws, rfl, hws⟩ := ints_of ys q4
  have hl : ws.length = (1 + v).toNat := by
    have := q3
    simpa [rngD] using this
  refine ⟨ws, tab', by omega, by omega, hws, q2, ?_⟩
  unfold s_law_2 q_law_0
  have hk : kComp (prg.kt 11) [("_law_turn", 22)] (.name 22) .nop (.call "_law_taken" (.cons (.var 1) (.cons (.ix (.lst (.cons (.int 3) (.cons (.int 50) .nil))) (.call "_law_taken" (.cons (.var 1) (.cons (.int 2) .nil)))) .nil))) (.ok ⟨rngD 0 (1 + v), []⟩ ⟨envA ns (some (.d (.int a))) e3 (List.replicate 19 none), tab.set 0 ob⟩) = .ok (.o (ws.map D.int)) ⟨envA ns (some (.d (.int a))) e3 (List.replicate 19 none), tab'⟩ := by
    rw [kComp_ok, if_pos (by simp [rngD, lim]; omega)]
    show (loopC (bindG (.name 22)) [22] _ _ _ _ _).bind _ = _
    rw [q1]
    rfl
  have hx : evIt (prg.kt 11) (.rng1 (.op .add (.int 1) (.call "_law_taken" (.cons (.var 1) (.cons (.int 6) .nil))))) ⟨envA ns (some (.d (.int a))) e3 (List.replicate 19 none), tab⟩ = .ok ⟨rngD 0 (1 + v), []⟩ ⟨envA ns (some (.d (.int a))) e3 (List.replicate 19 none), tab.set 0 ob⟩ := by
    unfold envA
    simp [varOf, e, binD, binI, show -4611686018427387904 ≤ 1 + v by omega, show 1 + v < 4611686018427387904 by omega]
  simp only [x_asg, ev_bi, ebs_cons, bo_comp, ev_comp, hx, hk, kBo_ok, kEb_ok, ebs_nil, kEb2_ok, kBi_ok, rsvs_cons, rsvs_nil, rsv_ev, Option.bind_some, Option.map_some]
  rfl
end
end K09

end
section
set_option Elab.async false
set_option linter.all false
set_option maxRecDepth 100000
set_option maxHeartbeats 2000000
namespace K09
open PySem SH
section
variable {ns : List Int} {tab : List Ob} {a : Int} {ws : List Int}
theorem law4 (h1 : 1 ≤ ws.length) (h2 : ws.length ≤ 6) (h3 : ∀ w ∈ ws, 0 ≤ w ∧ w < 50) (e2 : Option Ev) (rest : List (Option Ev)) : ∃ ws', Wts ws' ∧ exec (prg.kt 11) s_law_4 ⟨envA ns e2 (some (.d (.tup (ws.map D.int)))) rest, tab⟩ = SH.F.nx ⟨envA ns e2 (some (.d (.tup (ws'.map D.int)))) rest, tab⟩ := by
  have n0 := sum_nonneg fun w hw => (h3 w hw).1
  have n1 := sum_le (B := 50) fun w hw => Int.le_of_lt (h3 w hw).2
  by_cases h0 : ws.sum = 0
  · refine ⟨ws ++ [1], ⟨by simp; omega, fun w hw => ?_, by simp [h0], by simp [h0]⟩, ?_⟩
    · rcases List.mem_append.mp hw with q | q
      · have := h3 w q
        omega
      · have : w = 1 := by simpa using q
        omega
    · unfold s_law_4 b_law_0 s_law_3 envA
      simp [varOf, biD, seqOf, cmpD, datOf, okD, eqD, h0, lim, binD, show ws.length + 1 ≤ 16777216 by omega]
  · refine ⟨ws, ⟨by omega, fun w hw => by have := h3 w hw; omega, by omega, by omega⟩, ?_⟩
    unfold s_law_4 envA
    simp [varOf, biD, seqOf, cmpD, datOf, okD, eqD, show (ws.sum == 0) = false from beq_false_of_ne h0]
/-- the slots behind the parts -/
def envB (ns : List Int) (a : Int) (ws : List Int) (e4 e5 e6 e7 e8 e9 e10 e11 e15 e16 e17 e18 e19 e20 e21 : Option Ev) : SH.Env :=
  [some (.d (.kl (ns.map D.int))), some (.d (.ref 0)), some (.d (.int a)), some (.d (.tup (ws.map D.int))), e4, e5, e6, e7, e8, e9, e10, e11, some (.d (.int ws.sum)), some (.d (.tup ((partsF a ws.sum ws).map D.int))), some (.d (.tup ((stepsF a ws.sum ws 0 0).map D.int))), e15, e16, e17, e18, e19, e20, e21, none]
theorem law5 (ha : 0 ≤ a) (ha2 : a < 1000000) (hw : Wts ws) : exec (prg.kt 11) s_law_5 ⟨envA ns (some (.d (.int a))) (some (.d (.tup (ws.map D.int)))) (List.replicate 19 none), tab⟩ = SH.F.nx ⟨envB ns a ws none none none none none none none none none none none none none none none, tab⟩ := by
  have e1 : prg.call 11 "shared" [.int a, .tup (ws.map D.int)] tab = .ok (.d (.tup ((partsF a ws.sum ws).map D.int))) tab := shared_ok 8 tab ha (by omega) hw
  have e2 : prg.call 11 "stepped" [.int a, .tup (ws.map D.int)] tab = .ok (.d (.tup ((stepsF a ws.sum ws 0 0).map D.int))) tab := stepped_ok 8 tab ha (by omega) hw
  unfold s_law_5 envA envB
  simp [varOf, biD, seqOf, e1, e2, setAll, List.replicate_succ]
/-- telescoping -/
theorem steps_sum (a W : Int) : ∀ (r : List Int) (sf last : Int), (stepsF a W r sf last).sum = (if r = [] then last else a * (sf + r.sum) / W) - last
  | [], sf, last => by simp [stepsF]
  | w :: r, sf, last => by
    rw [stepsF, List.sum_cons, steps_sum a W r]
    cases r with
    | nil => simp
    | cons x r =>
      simp [Int.add_assoc]
      omega
theorem steps_take (a W : Int) : ∀ (r : List Int) (sf last : Int) (i : Nat), (stepsF a W r sf last).take i = stepsF a W (r.take i) sf last
  | _, _, _, 0 => by simp [stepsF]
  | [], _, _, i + 1 => by simp [stepsF]
  | w :: r, sf, last, i + 1 => by
    simp [stepsF, steps_take a W r]
theorem steps_all (hw : Wts ws) : (stepsF a ws.sum ws 0 0).sum = a := by
  have hp := hw.pos
  rw [steps_sum]
  have : ws ≠ [] := fun e => by
    have := hw.len
    rw [e] at this
    simp at this
  rw [if_neg this, Int.zero_add, Int.mul_ediv_cancel _ (by omega)]
  omega
theorem law7 (hw : Wts ws) : exec (prg.kt 11) s_law_7 ⟨envB ns a ws none none none none none none none none none none none none none none none, tab⟩ = SH.F.nx ⟨envB ns a ws none none none none none none none none none none none none none none none, tab⟩ := by
  have hp := parts_sum (a := a) hw.pos rfl
  have hs := steps_all (a := a) hw
  unfold s_law_7 envB
  simp [varOf, biD, seqOf, cmpD, datOf, okD, eqD, hp, hs, parts_length, stepsF_length]
theorem law8 : exec (prg.kt 11) s_law_8 ⟨envB ns a ws none none none none none none none none none none none none none none none, tab⟩ = SH.F.nx ⟨envB ns a ws (some (.o [])) none none none none none none none none none none none none none none, tab⟩ := by
  unfold s_law_8 envB
  simp [lim]
/-- a row of the law's rests -/
def rowL (a : Int) (ws : List Int) (i : Nat) : D := .tup [.int (a * ws.getD i 0 % ws.sum), .int ((partsF a ws.sum ws).getD i 0 - a * ws.getD i 0 / ws.sum), .int i]
theorem more_01 {i : Nat} (h : i < ws.length) : (partsF a ws.sum ws).getD i 0 = a * ws.getD i 0 / ws.sum ∨ (partsF a ws.sum ws).getD i 0 = a * ws.getD i 0 / ws.sum + 1 := by
  rw [parts_get h, List.getD_eq_getElem?_getD, List.getElem?_eq_getElem h]
  show a * ws[i] / ws.sum + _ = _ ∨ _
  split
  · exact .inr rfl
  · exact .inl (by simp)
theorem law13 (ha : 0 ≤ a) (ha2 : a < 1000000) (hw : Wts ws) : ∃ e6 e15 e16, exec (prg.kt 11) s_law_13 ⟨envB ns a ws (some (.o [])) none none none none none none none none none none none none none none, tab⟩ = SH.F.nx ⟨envB ns a ws (some (.o ((List.range ws.length).map (rowL a ws)))) none e6 none none none none none e15 e16 none none none none none, tab⟩ := by
  obtain ⟨l1, l2⟩ := hw.len
  have hpos := hw.pos
  have hlt := hw.lt
  have hi64 : i64 a = true := by simp [i64]; omega
  obtain ⟨s', h1, h2⟩ := forL_inv (bd := bindG (.tup (.cons (.name 6) (.cons (.name 15) .nil)))) (fb := execs (prg.kt 11) b_law_3) (fun xs s => ∃ i e6 e15 e16, i ≤ ws.length ∧ xs = (enumD (ws.map D.int)).drop i ∧ s = ⟨envB ns a ws (some (.o ((List.range i).map (rowL a ws)))) none e6 none none none none none e15 e16 none none none none none, tab⟩) (enumD (ws.map D.int)) _ ⟨0, none, none, none, by omega, rfl, rfl⟩ fun x xs s ⟨i, e6, e15, e16, hi, hx, hs⟩ => by
    have hl : (enumD (ws.map D.int)).length = ws.length := by simp [enumD]
    have hi2 : i < ws.length := by
      have := congrArg List.length hx
      simp [hl] at this
      omega
    have hx2 : x = .tup [.int i, .int (ws.getD i 0)] ∧ xs = (enumD (ws.map D.int)).drop (i + 1) := by
      rw [List.drop_eq_getElem_cons (by omega)] at hx
      injection hx with q1 q2
      refine ⟨?_, q2⟩
      rw [q1]
      simp [enumD, List.getD_eq_getElem?_getD, hi2]
    obtain ⟨rfl, rfl⟩ := hx2
    subst hs
    refine ⟨envB ns a ws (some (.o ((List.range i).map (rowL a ws)))) none (some (.d (.int i))) none none none none none (some (.d (.int (ws.getD i 0)))) e16 none none none none none, ⟨envB ns a ws (some (.o ((List.range (i + 1)).map (rowL a ws)))) none (some (.d (.int i))) none none none none none (some (.d (.int (ws.getD i 0)))) (some (.d (.int (a * ws.getD i 0 / ws.sum)))) none none none none none, tab⟩, rfl, .inl ?_, i + 1, _, _, _, by omega, rfl, rfl⟩
    have hat : L2.atI ((partsF a ws.sum ws).map D.int) (i : Int) = some (.int ((partsF a ws.sum ws).getD i 0)) := atI_map (by rw [parts_length]; exact hi2)
    have h01 := more_01 (a := a) hi2
    have hrow : (List.range (i + 1)).map (rowL a ws) = (List.range i).map (rowL a ws) ++ [rowL a ws i] := by rw [List.range_succ, List.map_append]; rfl
    rw [hrow]
    generalize hG : (partsF a ws.sum ws).getD i 0 = G at hat h01
    generalize hw' : ws.getD i 0 = w at h01
    unfold b_law_3 s_law_9 s_law_11 s_law_12 envB
    have hrl : rowL a ws i = .tup [.int (a * w % ws.sum), .int (G - a * w / ws.sum), .int i] := by
      unfold rowL
      rw [hG, hw']
    rw [hrl]
    rcases h01 with h01 | h01 <;>
      simp [varOf, binD, binI, hi64, hpos, hlt, ixD, seqOf, hat, isT, cmpD, datOf, okD, eqD, h01, lim, lstOf, putL, show i < 16777216 by omega]
  obtain ⟨i, e6, e15, e16, g1, g2, g3⟩ := h2
  have hi : i = ws.length := by
    have := congrArg List.length g2
    simp [enumD] at this
    omega
  subst hi g3
  refine ⟨e6, e15, e16, ?_⟩
  rw [← h1]
  unfold s_law_13
  have : evIt (prg.kt 11) (.enum (.var 3)) ⟨envB ns a ws (some (.o [])) none none none none none none none none none none none none none none, tab⟩ = .ok ⟨enumD (ws.map D.int), [(.d (.tup (ws.map D.int)), none)]⟩ ⟨envB ns a ws (some (.o [])) none none none none none none none none none none none none none none, tab⟩ := rfl
  simp only [x_for, this, kFor_ok]
  rfl
end
end K09

end
section
set_option Elab.async false
set_option linter.all false
set_option maxRecDepth 100000
set_option maxHeartbeats 2000000
namespace K09
open PySem SH
section
variable {ns : List Int} {tab : List Ob} {a : Int} {ws : List Int}
theorem getD_at {i : Nat} (h : i < ws.length) : ws.getD i 0 = ws[i] := by simp [List.getD_eq_getElem?_getD, h]
theorem law_order (hw : Wts ws) {i j : Nat} (hi : i < ws.length) (hj : j < ws.length) (h : (partsF a ws.sum ws).getD i 0 - a * ws.getD i 0 / ws.sum < (partsF a ws.sum ws).getD j 0 - a * ws.getD j 0 / ws.sum) :
    a * ws.getD i 0 % ws.sum < a * ws.getD j 0 % ws.sum ∨ (a * ws.getD i 0 % ws.sum = a * ws.getD j 0 % ws.sum ∧ j ≤ i) := by
  rw [parts_get hi, parts_get hj, getD_at hi, getD_at hj] at h
  rw [getD_at hi, getD_at hj]
  by_cases mi : i ∈ topIx a ws.sum ws
  · exfalso
    rw [if_pos mi] at h
    split at h <;> omega
  · by_cases mj : j ∈ topIx a ws.sum ws
    · exact top_order hi hj mi mj
    · exfalso
      rw [if_neg mi, if_neg mj] at h
      omega
theorem law_pos (hw : Wts ws) {i : Nat} (hi : i < ws.length) (h : (partsF a ws.sum ws).getD i 0 - a * ws.getD i 0 / ws.sum = 1) : a * ws.getD i 0 % ws.sum ≠ 0 := by
  rw [parts_get hi, getD_at hi] at h
  rw [getD_at hi]
  by_cases mi : i ∈ topIx a ws.sum ws
  · exact top_pos hw.pos rfl hi mi
  · rw [if_neg mi] at h
    omega
def rowsL (a : Int) (ws : List Int) : List D := (List.range ws.length).map (rowL a ws)
theorem rows_drop {i : Nat} {x : D} {xs : List D} (h : x :: xs = (rowsL a ws).drop i) : i < ws.length ∧ x = rowL a ws i ∧ xs = (rowsL a ws).drop (i + 1) := by
  have hl : (rowsL a ws).length = ws.length := by simp [rowsL]
  have hi : i < ws.length := by
    have := congrArg List.length h
    simp [hl] at this
    omega
  rw [List.drop_eq_getElem_cons (by omega)] at h
  injection h with q1 q2
  refine ⟨hi, ?_, q2⟩
  rw [q1]
  simp [rowsL]
theorem rows_end {i : Nat} (hi : i ≤ ws.length) (h : ([] : List D) = (rowsL a ws).drop i) : i = ws.length := by
  have hl : (rowsL a ws).length = ws.length := by simp [rowsL]
  have := congrArg List.length h
  simp [hl] at this
  omega
theorem law16 (hw : Wts ws) {i : Nat} (hi : i < ws.length) (e15 e16 e19 e20 e21 : Option Ev) : ∃ f19 f20 f21, exec (prg.kt 11) s_law_16 ⟨envB ns a ws (some (.d (.lst (rowsL a ws)))) none (some (.d (.int i))) none none none none none e15 e16 (some (.d (.int (a * ws.getD i 0 % ws.sum)))) (some (.d (.int ((partsF a ws.sum ws).getD i 0 - a * ws.getD i 0 / ws.sum)))) e19 e20 e21, tab⟩ =
    SH.F.nx ⟨envB ns a ws (some (.d (.lst (rowsL a ws)))) none (some (.d (.int i))) none none none none none e15 e16 (some (.d (.int (a * ws.getD i 0 % ws.sum)))) (some (.d (.int ((partsF a ws.sum ws).getD i 0 - a * ws.getD i 0 / ws.sum)))) f19 f20 f21, tab⟩ := by
  obtain ⟨s', h1, h2⟩ := forL_inv (bd := bindG (.tup (.cons (.name 19) (.cons (.name 20) (.cons (.name 21) .nil))))) (fb := execs (prg.kt 11) b_law_5) (fun xs s => ∃ j e19 e20 e21, j ≤ ws.length ∧ xs = (rowsL a ws).drop j ∧ s = ⟨envB ns a ws (some (.d (.lst (rowsL a ws)))) none (some (.d (.int i))) none none none none none e15 e16 (some (.d (.int (a * ws.getD i 0 % ws.sum)))) (some (.d (.int ((partsF a ws.sum ws).getD i 0 - a * ws.getD i 0 / ws.sum)))) e19 e20 e21, tab⟩) (rowsL a ws) _ ⟨0, e19, e20, e21, by omega, rfl, rfl⟩ fun x xs s ⟨j, e19, e20, e21, hj, hx, hs⟩ => by
    obtain ⟨hj2, rfl, rfl⟩ := rows_drop hx
    subst hs
    have ho := law_order (a := a) hw hi hj2
    refine ⟨envB ns a ws (some (.d (.lst (rowsL a ws)))) none (some (.d (.int i))) none none none none none e15 e16 (some (.d (.int (a * ws.getD i 0 % ws.sum)))) (some (.d (.int ((partsF a ws.sum ws).getD i 0 - a * ws.getD i 0 / ws.sum)))) (some (.d (.int (a * ws.getD j 0 % ws.sum)))) (some (.d (.int ((partsF a ws.sum ws).getD j 0 - a * ws.getD j 0 / ws.sum)))) (some (.d (.int j))), _, rfl, .inl ?_, j + 1, (some (.d (.int (a * ws.getD j 0 % ws.sum)))), (some (.d (.int ((partsF a ws.sum ws).getD j 0 - a * ws.getD j 0 / ws.sum)))), (some (.d (.int j))), by omega, rfl, rfl⟩
    generalize (partsF a ws.sum ws).getD i 0 - a * ws.getD i 0 / ws.sum = mi at ho ⊢
    generalize (partsF a ws.sum ws).getD j 0 - a * ws.getD j 0 / ws.sum = mj at ho ⊢
    generalize a * ws.getD i 0 % ws.sum = ri at ho ⊢
    generalize a * ws.getD j 0 % ws.sum = rj at ho ⊢
    unfold b_law_5 s_law_15 envB
    by_cases c1 : mi < mj
    · have c2 : ¬ rj < ri := by have := ho c1; omega
      by_cases c3 : ri = rj
      · have c4 : ¬ ((i : Int) < j) := by have := ho c1; omega
        have c5 : (ri == rj) = true := beq_iff_eq.mpr c3
        simp [varOf, cmpD, cmpO, cmpI, datOf, okD, eqD, c1, c2, c5, c4, show ¬ i < j by omega]
      · have c5 : (ri == rj) = false := beq_false_of_ne c3
        simp [varOf, cmpD, cmpO, cmpI, datOf, okD, eqD, c1, c2, c5]
    · simp [varOf, cmpD, cmpO, cmpI, c1]
  obtain ⟨j, f19, f20, f21, g1, g2, g3⟩ := h2
  subst g3
  refine ⟨f19, f20, f21, ?_⟩
  rw [← h1]
  unfold s_law_16
  have : evIt (prg.kt 11) (.seq (.var 4)) ⟨envB ns a ws (some (.d (.lst (rowsL a ws)))) none (some (.d (.int i))) none none none none none e15 e16 (some (.d (.int (a * ws.getD i 0 % ws.sum)))) (some (.d (.int ((partsF a ws.sum ws).getD i 0 - a * ws.getD i 0 / ws.sum)))) e19 e20 e21, tab⟩ = .ok ⟨rowsL a ws, [(.d (.lst (rowsL a ws)), none)]⟩ ⟨envB ns a ws (some (.d (.lst (rowsL a ws)))) none (some (.d (.int i))) none none none none none e15 e16 (some (.d (.int (a * ws.getD i 0 % ws.sum)))) (some (.d (.int ((partsF a ws.sum ws).getD i 0 - a * ws.getD i 0 / ws.sum)))) e19 e20 e21, tab⟩ := rfl
  simp only [x_for, this, kFor_ok]
  rfl
theorem law19 (hw : Wts ws) (e6 e15 e16 : Option Ev) : ∃ f6 f17 f18 f19 f20 f21, exec (prg.kt 11) s_law_19 ⟨envB ns a ws (some (.o (rowsL a ws))) none e6 none none none none none e15 e16 none none none none none, tab⟩ = SH.F.nx ⟨envB ns a ws (some (.d (.lst (rowsL a ws)))) none f6 none none none none none e15 e16 f17 f18 f19 f20 f21, tab⟩ := by
  obtain ⟨s', h1, h2⟩ := forL_inv (bd := bindG (.tup (.cons (.name 17) (.cons (.name 18) (.cons (.name 6) .nil))))) (fb := execs (prg.kt 11) b_law_7) (fun xs s => ∃ j f6 f17 f18 f19 f20 f21, j ≤ ws.length ∧ xs = (rowsL a ws).drop j ∧ s = ⟨envB ns a ws (some (.d (.lst (rowsL a ws)))) none f6 none none none none none e15 e16 f17 f18 f19 f20 f21, tab⟩) (rowsL a ws) _ ⟨0, e6, none, none, none, none, none, by omega, rfl, rfl⟩ fun x xs s ⟨j, f6, f17, f18, f19, f20, f21, hj, hx, hs⟩ => by
    obtain ⟨hj2, rfl, rfl⟩ := rows_drop hx
    subst hs
    obtain ⟨g19, g20, g21, hin⟩ := law16 (ns := ns) (tab := tab) (a := a) hw hj2 e15 e16 f19 f20 f21
    have hpz := law_pos (a := a) hw hj2
    refine ⟨envB ns a ws (some (.d (.lst (rowsL a ws)))) none (some (.d (.int j))) none none none none none e15 e16 (some (.d (.int (a * ws.getD j 0 % ws.sum)))) (some (.d (.int ((partsF a ws.sum ws).getD j 0 - a * ws.getD j 0 / ws.sum)))) f19 f20 f21, ⟨envB ns a ws (some (.d (.lst (rowsL a ws)))) none (some (.d (.int j))) none none none none none e15 e16 (some (.d (.int (a * ws.getD j 0 % ws.sum)))) (some (.d (.int ((partsF a ws.sum ws).getD j 0 - a * ws.getD j 0 / ws.sum)))) g19 g20 g21, tab⟩, rfl, .inl ?_, j + 1, _, _, _, _, _, _, by omega, rfl, rfl⟩
    unfold b_law_7
    rw [step hin]
    generalize (partsF a ws.sum ws).getD j 0 - a * ws.getD j 0 / ws.sum = mi at hpz ⊢
    generalize a * ws.getD j 0 % ws.sum = ri at hpz ⊢
    unfold s_law_18 envB
    by_cases c1 : mi = 1
    · have c2 : (ri == 0) = false := beq_false_of_ne (hpz c1)
      simp [varOf, cmpD, cmpO, cmpI, datOf, okD, eqD, c1, c2]
    · have c2 : (mi == 1) = false := beq_false_of_ne c1
      simp [varOf, cmpD, cmpO, cmpI, datOf, okD, eqD, c2]
  obtain ⟨j, f6, f17, f18, f19, f20, f21, g1, g2, g3⟩ := h2
  subst g3
  refine ⟨f6, f17, f18, f19, f20, f21, ?_⟩
  rw [← h1]
  unfold s_law_19
  have : evIt (prg.kt 11) (.seq (.var 4)) ⟨envB ns a ws (some (.o (rowsL a ws))) none e6 none none none none none e15 e16 none none none none none, tab⟩ = .ok ⟨rowsL a ws, [(.d (.lst (rowsL a ws)), none)]⟩ ⟨envB ns a ws (some (.d (.lst (rowsL a ws)))) none e6 none none none none none e15 e16 none none none none none, tab⟩ := rfl
  simp only [x_for, this, kFor_ok]
  rfl
end
end K09

end
section
set_option Elab.async false
set_option linter.all false
set_option maxRecDepth 100000
set_option maxHeartbeats 2000000
namespace K09
open PySem SH
section
variable {ns : List Int} {tab : List Ob} {a : Int} {ws : List Int} (e4 e6 e15 e16 e17 e18 e19 e20 e21 : Option Ev)
theorem law20 : exec (prg.kt 11) s_law_20 ⟨envB ns a ws e4 none e6 none none none none none e15 e16 e17 e18 e19 e20 e21, tab⟩ = SH.F.nx ⟨envB ns a ws e4 (some (.d (.int 0))) e6 none none none none none e15 e16 e17 e18 e19 e20 e21, tab⟩ := by
  unfold s_law_20 envB
  simp
theorem cut_take (l : List Int) (k : Nat) : cutD (l.map D.int) none (some (k : Int)) = (l.take k).map D.int := by
  show List.take ((if (k : Int) < 0 then ((k : Int) + ((l.map D.int).length : Int)).toNat else min (k : Int).toNat (l.map D.int).length) - 0) (l.map D.int) = _
  rw [if_neg (by omega), Nat.sub_zero, List.map_take, ← List.take_take, List.take_length]
  rfl
theorem kr1 {m : Int} {s : S} (h1 : -4611686018427387904 ≤ m) (h2 : m < 4611686018427387904) : kR1 (.ok (.d (.int m)) s) = .ok ⟨rngD 0 m, []⟩ s := by
  rw [kR1_ok, if_pos ⟨h1, h2⟩]
theorem law24 (ha : 0 ≤ a) (ha2 : a < 1000000) (hw : Wts ws) : ∃ f5 f6, exec (prg.kt 11) s_law_24 ⟨envB ns a ws e4 (some (.d (.int 0))) e6 none none none none none e15 e16 e17 e18 e19 e20 e21, tab⟩ = SH.F.nx ⟨envB ns a ws e4 f5 f6 none none none none none e15 e16 e17 e18 e19 e20 e21, tab⟩ := by
  obtain ⟨l1, l2⟩ := hw.len
  have hpos := hw.pos
  have hlt := hw.lt
  have hi64 : i64 a = true := by simp [i64]; omega
  have hlen : (rngD 0 (ws.length : Int)).length = ws.length := by simp [rngD]
  obtain ⟨s', h1, h2⟩ := forL_inv (bd := bindG (.name 6)) (fb := execs (prg.kt 11) b_law_9) (fun xs s => ∃ i f6, i ≤ ws.length ∧ xs = (rngD 0 (ws.length : Int)).drop i ∧ s = ⟨envB ns a ws e4 (some (.d (.int (ws.take i).sum))) f6 none none none none none e15 e16 e17 e18 e19 e20 e21, tab⟩) (rngD 0 (ws.length : Int)) ⟨envB ns a ws e4 (some (.d (.int 0))) e6 none none none none none e15 e16 e17 e18 e19 e20 e21, tab⟩ ⟨0, e6, by omega, by rw [List.drop_zero], by rw [List.take_zero, List.sum_nil]⟩ fun x xs s ⟨i, f6, hi, hx, hs⟩ => by
    have hi2 : i < ws.length := by
      have := congrArg List.length hx
      simp [hlen] at this
      omega
    have hx2 : x = .int (i : Int) ∧ xs = (rngD 0 (ws.length : Int)).drop (i + 1) := by
      rw [List.drop_eq_getElem_cons (by omega)] at hx
      injection hx with q1 q2
      refine ⟨?_, q2⟩
      rw [q1]
      simp [rngD]
    obtain ⟨rfl, rfl⟩ := hx2
    subst hs
    refine ⟨envB ns a ws e4 (some (.d (.int (ws.take i).sum))) (some (.d (.int (i : Int)))) none none none none none e15 e16 e17 e18 e19 e20 e21, ⟨envB ns a ws e4 (some (.d (.int (ws.take (i + 1)).sum))) (some (.d (.int (i : Int)))) none none none none none e15 e16 e17 e18 e19 e20 e21, tab⟩, rfl, .inl ?_, i + 1, _, by omega, rfl, rfl⟩
    have hat : L2.atI (ws.map D.int) (i : Int) = some (.int (ws.getD i 0)) := atI_map hi2
    have hsum : (ws.take i).sum + ws.getD i 0 = (ws.take (i + 1)).sum := by
      rw [List.take_succ, List.sum_append, getD_at hi2]
      simp [hi2]
    have hst : ((stepsF a ws.sum ws 0 0).take (i + 1)).sum = a * (ws.take (i + 1)).sum / ws.sum := by
      rw [steps_take, steps_sum]
      have : ws.take (i + 1) ≠ [] := fun e => by
        have := congrArg List.length e
        rw [List.length_take, List.length_nil] at this
        omega
      rw [if_neg this]
      simp
    have hsl : slD (.d (.tup ((stepsF a ws.sum ws 0 0).map D.int))) none (some ((i : Int) + 1)) tab = some (.d (.tup (((stepsF a ws.sum ws 0 0).take (i + 1)).map D.int))) := by
      show some (Ev.d (.tup (cutD _ none (some ((i : Int) + 1))))) = _
      rw [show (i : Int) + 1 = ((i + 1 : Nat) : Int) from rfl, cut_take]
    have hbi : biD .sum [.d (.tup (((stepsF a ws.sum ws 0 0).take (i + 1)).map D.int))] tab = some (.d (.int (a * (ws.take (i + 1)).sum / ws.sum))) := by
      show ((intsOf (((stepsF a ws.sum ws 0 0).take (i + 1)).map D.int)).map fun ns => Ev.d (D.int ns.sum)) = _
      rw [intsOf_map]
      show some (Ev.d (D.int ((stepsF a ws.sum ws 0 0).take (i + 1)).sum)) = _
      rw [hst]
    generalize ws.getD i 0 = gi at hat hsum
    unfold b_law_9 s_law_21 s_law_23 envB
    generalize stepsF a ws.sum ws 0 0 = st at hsl hbi ⊢
    simp [varOf, binD, binI, ixD, seqOf, hat, hsum, hsl, hbi, hi64, hpos, hlt, cmpD, datOf, okD, eqD, -List.map_take]
  obtain ⟨i, f6, g1, g2, g3⟩ := h2
  subst g3
  refine ⟨some (.d (.int (ws.take i).sum)), f6, ?_⟩
  unfold s_law_24
  have : evIt (prg.kt 11) (.rng1 (.bi .len (.cons (.var 3) .nil))) ⟨envB ns a ws e4 (some (.d (.int 0))) e6 none none none none none e15 e16 e17 e18 e19 e20 e21, tab⟩ = .ok ⟨rngD 0 (ws.length : Int), []⟩ ⟨envB ns a ws e4 (some (.d (.int 0))) e6 none none none none none e15 e16 e17 e18 e19 e20 e21, tab⟩ := by
    have hbl : biD .len [.d (.tup (ws.map D.int))] tab = some (.d (.int (ws.length : Int))) := by
      show some (Ev.d (.int ((ws.map D.int).length : Int))) = _
      rw [List.length_map]
    have hk := kr1 (m := (ws.length : Int)) (s := ⟨envB ns a ws e4 (some (.d (.int 0))) e6 none none none none none e15 e16 e17 e18 e19 e20 e21, tab⟩) (by omega) (by omega)
    rw [← hk]
    unfold envB
    simp only [it_rng1, ev_bi, ebs_cons, ebs_nil, bo_var, List.getElem?_cons_succ, List.getElem?_cons_zero, Option.join_some, kEb_ok, kEb2_ok, kBi_ok, rsvs_cons, rsvs_nil, rsv_sl, Option.bind_some, Option.map_some, hbl, R.ofO_some]
  simp only [x_for, this, kFor_ok, List.all_nil, if_true]
  exact h1
variable (e5 : Option Ev)
theorem law25 (hr : RowAt tab 0 ns) : ∃ r tab', 0 ≤ r ∧ r ≤ 999 ∧ RowAt tab' 0 ns ∧ exec (prg.kt 11) s_law_25 ⟨envB ns a ws e4 e5 e6 none none none none none e15 e16 e17 e18 e19 e20 e21, tab⟩ = SH.F.nx ⟨envB ns a ws e4 e5 e6 (some (.d (.int r))) none none none none e15 e16 e17 e18 e19 e20 e21, tab'⟩ := by
  obtain ⟨v, x, ob, hx, e, hr2⟩ := pk hr [.int 0, .int 1, .int 70, .int 190, .int 333, .int 999] (by simp) (by simp)
  have : ∃ r : Int, x = .int r ∧ 0 ≤ r ∧ r ≤ 999 := by
    have hm := List.mem_of_getElem? hx
    simp at hm
    rcases hm with rfl | rfl | rfl | rfl | rfl | rfl <;> exact ⟨_, rfl, by omega, by omega⟩
  obtain ⟨r, rfl, r0, r1⟩ := this
  refine ⟨r, _, r0, r1, hr2, ?_⟩
  unfold s_law_25 envB
  simp [varOf, lim, e]
variable {r : Int}
theorem law26 (ha : 0 ≤ a) (ha2 : a < 1000000) (r0 : 0 ≤ r) (r1 : r ≤ 999) : exec (prg.kt 11) s_law_26 ⟨envB ns a ws e4 e5 e6 (some (.d (.int r))) none none none none e15 e16 e17 e18 e19 e20 e21, tab⟩ = SH.F.nx ⟨envB ns a ws e4 e5 e6 (some (.d (.int r))) (some (.d (.int ((2 * (a * r) + 1000) / 2000)))) none none none e15 e16 e17 e18 e19 e20 e21, tab⟩ := by
  have e : prg.call 11 "taxed" [.int a, .int r] tab = .ok (.d (.int ((2 * (a * r) + 1000) / 2000))) tab := taxed_ok 9 tab ha (by omega) r0 r1
  unfold s_law_26 envB
  simp [varOf, e]
theorem law28 (r0 : 0 ≤ r) (r1 : r ≤ 999) : exec (prg.kt 11) s_law_28 ⟨envB ns a ws e4 e5 e6 (some (.d (.int r))) (some (.d (.int ((2 * (a * r) + 1000) / 2000)))) none none none e15 e16 e17 e18 e19 e20 e21, tab⟩ = SH.F.nx ⟨envB ns a ws e4 e5 e6 (some (.d (.int r))) (some (.d (.int ((2 * (a * r) + 1000) / 2000)))) none none none e15 e16 e17 e18 e19 e20 e21, tab⟩ := by
  have hr : i64 r = true := by simp [i64]; omega
  have em : 2 * a * r = 2 * (a * r) := Int.mul_assoc _ _ _
  unfold s_law_28 envB
  generalize a * r = q at em ⊢
  have c1 : ¬ 2000 * ((2 * q + 1000) / 2000) ≤ 2 * q - 1000 := by omega
  have c2 : ¬ 2 * q + 1000 < 2000 * ((2 * q + 1000) / 2000) := by omega
  simp [varOf, binD, binI, hr, cmpD, cmpO, cmpI, isT, em, c1, c2, show i64 2 = true by simp [i64], show i64 2000 = true by simp [i64]]
theorem law29 (ha : 0 ≤ a) (ha2 : a < 1000000) (r0 : 0 ≤ r) (r1 : r ≤ 999) (e8 : Option Ev) : ∃ net, 0 ≤ net ∧ net ≤ a ∧ a < gr (net + 1) r ∧ gr net r ≤ a ∧ exec (prg.kt 11) s_law_29 ⟨envB ns a ws e4 e5 e6 (some (.d (.int r))) e8 none none none e15 e16 e17 e18 e19 e20 e21, tab⟩ = SH.F.nx ⟨envB ns a ws e4 e5 e6 (some (.d (.int r))) e8 (some (.d (.int net))) none none e15 e16 e17 e18 e19 e20 e21, tab⟩ := by
  obtain ⟨net, n0, n1, n2, n3, e⟩ := net_of_ok 9 tab ha (show a ≤ 1000000 by omega) r0 r1
  have e : prg.call 11 "net_of" [.int a, .int r] tab = .ok (.d (.int net)) tab := e
  refine ⟨net, n0, n1, n2, n3, ?_⟩
  unfold s_law_29 envB
  simp [varOf, e]
theorem law31 (ha2 : a < 1000000) (r0 : 0 ≤ r) (r1 : r ≤ 999) (e8 : Option Ev) {net : Int} (n0 : 0 ≤ net) (n1 : net ≤ a) (n2 : a < gr (net + 1) r) (n3 : gr net r ≤ a) : exec (prg.kt 11) s_law_31 ⟨envB ns a ws e4 e5 e6 (some (.d (.int r))) e8 (some (.d (.int net))) none none e15 e16 e17 e18 e19 e20 e21, tab⟩ = SH.F.nx ⟨envB ns a ws e4 e5 e6 (some (.d (.int r))) e8 (some (.d (.int net))) none none e15 e16 e17 e18 e19 e20 e21, tab⟩ := by
  have e : prg.call 11 "taxed" [.int net, .int r] tab = .ok (.d (.int ((2 * (net * r) + 1000) / 2000))) tab := taxed_ok 9 tab n0 (by omega) r0 r1
  have e' : prg.call 11 "taxed" [.int (net + 1), .int r] tab = .ok (.d (.int ((2 * ((net + 1) * r) + 1000) / 2000))) tab := taxed_ok 9 tab (by omega) (by omega) r0 r1
  unfold gr at n2 n3
  unfold s_law_31 envB
  simp [varOf, binD, binI, cmpD, cmpO, cmpI, e, e', show ¬ a < net + (2 * (net * r) + 1000) / 2000 by omega, show ¬ net + 1 + (2 * ((net + 1) * r) + 1000) / 2000 ≤ a by omega, show ¬ net < 0 by omega]
end
end K09

end
section
set_option Elab.async false
set_option linter.all false
set_option maxRecDepth 100000
set_option maxHeartbeats 2000000
namespace K09
open PySem SH
theorem sub_bad : prg.sub "BadNumber" "BadNumber" = some true := rfl
section
variable (n : Nat) (tab : List Ob)
theorem wrong1 : prg.call 11 "shared" [.int (-1), .tup [.int 1]] tab = .ex "BadNumber" tab := rfl
theorem wrong2 : prg.call 11 "shared" [.int 1, .tup []] tab = .ex "BadNumber" tab := rfl
theorem wrong3 : prg.call 11 "shared" [.int 1, .tup [.int 0, .int 0]] tab = .ex "BadNumber" tab := rfl
theorem wrong4 : prg.call 11 "shared" [.int 1, .tup [.int 1, .bl true]] tab = .ex "BadNumber" tab := rfl
theorem wrong5 : prg.call 11 "shared" [.bl true, .tup [.int 1]] tab = .ex "BadNumber" tab := rfl
theorem wrong6 : prg.call 11 "shared" [.int 1, .lst [.int 1]] tab = .ex "BadNumber" tab := rfl
theorem wrongt1 : prg.call 11 "taxed" [.int 1, .int (-1)] tab = .ex "BadNumber" tab := rfl
theorem wrongt2 : prg.call 11 "taxed" [.int 1, .int 1000] tab = .ex "BadNumber" tab := rfl
theorem wrongt3 : prg.call 11 "taxed" [.int 1, .non] tab = .ex "BadNumber" tab := rfl
theorem wrongt4 : prg.call 11 "taxed" [.int 1, .bl true] tab = .ex "BadNumber" tab := rfl
end
section
variable {ns : List Int} {tab : List Ob} {a : Int} {ws : List Int} (e4 e5 e6 e7 e8 e9 e10 e15 e16 e17 e18 e19 e20 e21 : Option Ev)
theorem law32 (hr : RowAt tab 0 ns) : ∃ x y tab', (∀ tab, prg.call 11 "shared" [x, y] tab = .ex "BadNumber" tab) ∧ RowAt tab' 0 ns ∧ exec (prg.kt 11) s_law_32 ⟨envB ns a ws e4 e5 e6 e7 e8 e9 none none e15 e16 e17 e18 e19 e20 e21, tab⟩ = SH.F.nx ⟨envB ns a ws e4 e5 e6 e7 e8 e9 (some (.d (.tup [x, y]))) none e15 e16 e17 e18 e19 e20 e21, tab'⟩ := by
  obtain ⟨v, z, ob, hx, e, hr2⟩ := pk hr [.tup [.int (-1), .tup [.int 1]], .tup [.int 1, .tup []], .tup [.int 1, .tup [.int 0, .int 0]], .tup [.int 1, .tup [.int 1, .bl true]], .tup [.bl true, .tup [.int 1]], .tup [.int 1, .lst [.int 1]]] (by simp) (by simp)
  have : ∃ x y : D, z = .tup [x, y] ∧ ∀ tab, prg.call 11 "shared" [x, y] tab = .ex "BadNumber" tab := by
    have hm := List.mem_of_getElem? hx
    simp at hm
    rcases hm with rfl | rfl | rfl | rfl | rfl | rfl
    · exact ⟨_, _, rfl, wrong1⟩
    · exact ⟨_, _, rfl, wrong2⟩
    · exact ⟨_, _, rfl, wrong3⟩
    · exact ⟨_, _, rfl, wrong4⟩
    · exact ⟨_, _, rfl, wrong5⟩
    · exact ⟨_, _, rfl, wrong6⟩
  obtain ⟨x, y, rfl, hb⟩ := this
  refine ⟨x, y, _, hb, hr2, ?_⟩
  unfold s_law_32 envB
  simp [varOf, lim, e]
theorem law36 {x y : D} (hb : ∀ tab, prg.call 11 "shared" [x, y] tab = .ex "BadNumber" tab) : exec (prg.kt 11) s_law_36 ⟨envB ns a ws e4 e5 e6 e7 e8 e9 (some (.d (.tup [x, y]))) none e15 e16 e17 e18 e19 e20 e21, tab⟩ = SH.F.nx ⟨envB ns a ws e4 e5 e6 e7 e8 (some (.d (.int 0))) (some (.d (.tup [x, y]))) none e15 e16 e17 e18 e19 e20 e21, tab⟩ := by
  unfold s_law_36 b_law_13 s_law_34 envB b_law_12 s_law_33
  simp [varOf, ixD, seqOf, L2.atI, L2.ixN, hb, sub_bad, kCal2, kEx, kSq]
theorem law39 (hr : RowAt tab 0 ns) : ∃ s, exec (prg.kt 11) s_law_39 ⟨envB ns a ws e4 e5 e6 e7 e8 e9 e10 none e15 e16 e17 e18 e19 e20 e21, tab⟩ = SH.F.rt (.d (.bl true)) s := by
  obtain ⟨v, z, ob, hx, e, hr2⟩ := pk hr [.int (-1), .int 1000, .non, .bl true] (by simp) (by simp)
  have hb : ∀ tab, prg.call 11 "taxed" [.int 1, z] tab = .ex "BadNumber" tab := by
    have hm := List.mem_of_getElem? hx
    simp at hm
    rcases hm with rfl | rfl | rfl | rfl
    · exact wrongt1
    · exact wrongt2
    · exact wrongt3
    · exact wrongt4
  refine ⟨⟨envB ns a ws e4 e5 e6 e7 e8 e9 e10 none e15 e16 e17 e18 e19 e20 e21, tab.set 0 ob⟩, ?_⟩
  unfold s_law_39 b_law_15 s_law_38 b_law_14 s_law_37 envB
  simp [varOf, lim, e, hb, sub_bad, kCal2, kEx, kSq]
end
/-- THE LAW'S VALUE -/
theorem law_value (ns : List Int) : ∃ tab, prg.call 12 "law" [.kl (ns.map D.int)] [] = .ok (.d (.bl true)) tab := by
  have r0 : RowAt [rowO ns 0 7209 0] 0 ns := ⟨0, 7209, 0, rfl, by omega⟩
  obtain ⟨a, t1, a0, a1, r1, h1⟩ := law1 r0 (List.replicate 19 none) none
  obtain ⟨ws0, t2, l1, l2, w0, r2, h2⟩ := law2 r1 (a := a) none
  obtain ⟨ws, hw, h4⟩ := law4 (ns := ns) (tab := t2) l1 l2 w0 (some (.d (.int a))) (List.replicate 19 none)
  have h5 := law5 (ns := ns) (tab := t2) a0 a1 hw
  have h7 := law7 (ns := ns) (tab := t2) (a := a) hw
  have h8 := law8 (ns := ns) (tab := t2) (a := a) (ws := ws)
  obtain ⟨e6, e15, e16, h13⟩ : ∃ e6 e15 e16, exec (prg.kt 11) s_law_13 ⟨envB ns a ws (some (.o [])) none none none none none none none none none none none none none none, t2⟩ = SH.F.nx ⟨envB ns a ws (some (.o (rowsL a ws))) none e6 none none none none none e15 e16 none none none none none, t2⟩ := law13 a0 a1 hw
  obtain ⟨f6, f17, f18, f19, f20, f21, h19⟩ := law19 (ns := ns) (tab := t2) (a := a) hw e6 e15 e16
  have h20 := law20 (ns := ns) (tab := t2) (a := a) (ws := ws) (some (.d (.lst (rowsL a ws)))) f6 e15 e16 f17 f18 f19 f20 f21
  obtain ⟨g5, g6, h24⟩ := law24 (ns := ns) (tab := t2) (some (.d (.lst (rowsL a ws)))) f6 e15 e16 f17 f18 f19 f20 f21 a0 a1 hw
  obtain ⟨r, t3, rr0, rr1, r3, h25⟩ := law25 (a := a) (ws := ws) (some (.d (.lst (rowsL a ws)))) g6 e15 e16 f17 f18 f19 f20 f21 g5 r2
  have h26 := law26 (ns := ns) (tab := t3) (ws := ws) (some (.d (.lst (rowsL a ws)))) g6 e15 e16 f17 f18 f19 f20 f21 g5 a0 a1 rr0 rr1
  have h28 := law28 (ns := ns) (tab := t3) (a := a) (ws := ws) (some (.d (.lst (rowsL a ws)))) g6 e15 e16 f17 f18 f19 f20 f21 g5 rr0 rr1
  obtain ⟨net, n0, n1, n2, n3, h29⟩ := law29 (ns := ns) (tab := t3) (ws := ws) (some (.d (.lst (rowsL a ws)))) g6 e15 e16 f17 f18 f19 f20 f21 g5 a0 a1 rr0 rr1 (some (.d (.int ((2 * (a * r) + 1000) / 2000))))
  have h31 := law31 (ns := ns) (tab := t3) (ws := ws) (some (.d (.lst (rowsL a ws)))) g6 e15 e16 f17 f18 f19 f20 f21 g5 a1 rr0 rr1 (some (.d (.int ((2 * (a * r) + 1000) / 2000)))) n0 n1 n2 n3
  obtain ⟨x, y, t4, hb, r4, h32⟩ := law32 (a := a) (ws := ws) (some (.d (.lst (rowsL a ws)))) g5 g6 (some (.d (.int r))) (some (.d (.int ((2 * (a * r) + 1000) / 2000)))) (some (.d (.int net))) e15 e16 f17 f18 f19 f20 f21 r3
  have h36 := law36 (ns := ns) (tab := t4) (a := a) (ws := ws) (some (.d (.lst (rowsL a ws)))) g5 g6 (some (.d (.int r))) (some (.d (.int ((2 * (a * r) + 1000) / 2000)))) (some (.d (.int net))) e15 e16 f17 f18 f19 f20 f21 hb
  obtain ⟨s, h39⟩ := law39 (a := a) (ws := ws) (some (.d (.lst (rowsL a ws)))) g5 g6 (some (.d (.int r))) (some (.d (.int ((2 * (a * r) + 1000) / 2000)))) (some (.d (.int 0))) (some (.d (.tup [x, y]))) e15 e16 f17 f18 f19 f20 f21 r4
  refine ⟨s.tab, ?_⟩
  rw [call_of 11 (g := f_law) rfl]
  have hb : execs (prg.kt 11) b_law_16 ⟨startE 23 [.kl (ns.map D.int)], []⟩ = .rt (.d (.bl true)) s := by
    unfold b_law_16
    rw [step law0, step h1, step h2, step h4, step h5, step h7, step h8, step h13, step h19, step h20, step h24, step h25, step h26, step h28, step h29, step h31, step h32, step h36, xs_cons, h39, kSq_rt]
  show (if ([.kl (ns.map D.int)] : List D).length = f_law.ps.length then (match execs (prg.kt 11) b_law_16 ⟨startE 23 [.kl (ns.map D.int)], []⟩ with
    | .nx s => Rc.ok (.d .non) s.tab
    | .rt e s => .ok e s.tab
    | .ex x s => .ex x s.tab
    | _ => .st) else .st) = _
  rw [hb]
  rfl
end K09

end
theorem PySem.Challenge.cw_surehouse_k09_whole_sums_holds : PySem.Challenge.rw_surehouse_k09_whole_sums.Holds := by
  exact K09.holds_of fun ns _ => K09.law_value ns
